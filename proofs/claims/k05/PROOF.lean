import PyProof.Rows.All
import Wide.All
import OpenK.AllK
import Wide.FinOn
import PyProof.TableCode
import PyProof.EqAt
import PyProof.EqKinds
import PyProof.TupleCall
import HandS.Base
import HandS.Call
import HandS.List
import HandS.Comp
import HandS.Dict
import HandS.Iter
import HandS.Text
import HandS.Walk
import HandS.Evl
import HandS.Sort
import HandS.Deep
import PyProof.StrOps2
import HandS.IsInst
import HandS.WordsDict
import KE.IntTextLaws
import HandS.TupAny
import HandS.DictComp
import HandS.Property
import HandS.Words
import HandS.Defaults
import HandS.ClsMeth
import HandS.MakeKwOnly
import KE.GoesEnum
import KE.KDictZip
import HandS.Ends
import HandS.HeadEnd
import HandS.Style
import HandS.RaiseMore
import PyProof.ReprRoads
import PyProof.Rows.RegFStrParts
import HandS.HeadNt
import HandS.Head0
import HandS.Head1
import HandS.Head2
import PySem.Challenge.RW_everyworld_k05_whole_needs_and_uses
import KE.KStateDown
import Lean
set_option Elab.async false
set_option linter.all false
set_option maxRecDepth 100000
set_option maxHeartbeats 0
/-! VI, part A: plain data, a small heap, an IR of expressions and statements, and its interpreter. Nothing of the model here. -/
namespace VI
/-- plain data. lst, dct: lists and dicts that nobody changes; ref: a cell of the small heap -/
inductive D where
  | non | bl (b : Bool) | int (i : Int) | str (s : List Nat) | tup (xs : List D) | lst (xs : List D) | dct (ks vs : List D) | ref (l : Nat)
  /-- the script: read alone -/
  | scr (xs : List D)
deriving Inhabited
/-- what a cell holds -/
inductive Ob where
  | lst (xs : List D) | dct (ks vs : List D) | ins (c : Nat) (fs : List (Nat × D))
abbrev Hh := List Ob
abbrev Ev := List (Option D)
inductive Op where
  | add | sub | mul | fdiv | mod | pow | lt | le | gt | ge | eq | ne | isn | notn | inn | nin
deriving DecidableEq
inductive Ty where
  | int | bool | str | tuple | list | dict | none | cls (c : Nat)
deriving DecidableEq
inductive Bi where
  | len | abs | int | all | any | min | max | tuple | list | sum | dict | str
deriving DecidableEq
inductive Tg where
  | nm (i : Nat) | tp (is : List Nat)
deriving DecidableEq
mutual
inductive E where
  | var (i : Nat)
  | cst (d : D)
  | glo (g : Nat)
  | bin (o : Op) (a b : E)
  | cmp (o : Op) (a b : E)
  | chain (o o' : Op) (a b c : E)
  | neg (a : E)
  | andV (a b : E)
  | orV (a b : E)
  | notV (a : E)
  | ite (t a b : E)
  | tup (es : EL)
  | lst (es : EL)
  | mlst (es : EL)
  | mdct
  | call (f : Nat) (es : EL)
  | meth (f : Nat) (o : E) (es : EL)
  | prop (f : Nat) (o : E)
  | make (f : Nat) (es : EL)
  | fld (c : Nat) (o : E) (f : Nat)
  | bi (b : Bi) (es : EL)
  | isi (a : E) (t : Ty)
  | idx (a b : E)
  | sl (a lo hi : E)
  | slT (a lo : E)
  | slH (a hi : E)
  | lc (tg : Tg) (own : List Nat) (it : It) (c : E) (e : E)
  | dc (tg : Tg) (own : List Nat) (it : It) (k v : E)
  | has (neg : Bool) (f : Nat) (a o : E)
  | stat (f : Nat) (es : EL)
  | statK (f : Nat) (ks : EL) (perm : List Nat)
  | makeK (f : Nat) (es ks : EL) (perm : List Nat)
  | dz (a b : E)
  | app (o e : E)
  | chain3 (o1 o2 o3 : Op) (a b c d : E)
  /-- {k: v, ..}: keys and values in turn -/
  | dsp (kvs : EL)
  | inR (neg : Bool) (x a b : E)
  /-- a.join(b) -/
  | join (a b : E)
  /-- a[::-1] of a list -/
  | rev (a : E)
  /-- o.update(e): dicts -/
  | upd (o e : E)
  /-- o.m(k = v, ..) -/
  | methK (f : Nat) (o : E) (ks : EL) (perm : List Nat)
  /-- o.pop(i), o.pop(), o.extend(e): lists -/
  | popA (o i : E) | popL (o : E) | ext (o e : E)
  /-- a[:hi], a list in a cell -/
  | mslH (a hi : E)
  /-- dict(pairs) -/
  | dpr (e : E)
  /-- a call of a def in which repr is asked -/
  | callG (f : Nat) (es : EL)
  /-- repr(a) == repr(b), of the same data -/
  | eqR (neg : Bool) (a b : E)
  /-- a == [] -/
  | emp (neg : Bool) (a : E)
inductive EL where
  | nil | cons (e : E) (es : EL)
inductive It where
  | seq (e : E) | range1 (a : E) | range2 (a b : E) | enum (e : E) | zip (a b : E)
  /-- range(a, b, -1) -/
  | down (a b : E)
end
/-- a target within a tuple: a name, or o[k] -/
inductive TX where
  | nm (i : Nat) | sub (o k : E)
mutual
inductive S where
  | asg (tg : Tg) (e : E)
  | asgF (c : Nat) (o : E) (f : Nat) (e : E)
  | asgI (o i e : E)
  | par (i j : Nat) (a b : E)
  | asgT (ts : List TX) (es : EL)
  | aug (i : Nat) (o : Op) (e : E)
  | augF (c : Nat) (o : E) (f : Nat) (op : Op) (e : E)
  | expr (e : E)
  | ret (e : E)
  | retN
  | ite (t : E) (a b : SL)
  | for (tg : Tg) (it : It) (b : SL)
  | while (t : E) (b : SL)
  | pass | brk | cont | never
inductive SL where
  | nil | cons (s : S) (ss : SL)
end
inductive Out where
  | nx (δ : Ev) (h : Hh) | rt (d : D) (h : Hh) | bk (δ : Ev) (h : Hh) | ct (δ : Ev) (h : Hh)
/-- how a def hands back: raw; clo: the cells that it made are forgotten; frz: a list (dict) that it made is handed back as plain data -/
inductive Mode where
  | raw | clo | frz
deriving DecidableEq

/-! ### plain operations -/
def lim : Nat := 100000
mutual
def D.eqv : D → D → Bool
  | .non, .non => true
  | .bl a, .bl b => a == b
  | .bl a, .int j => (if a then 1 else 0) == j
  | .int i, .bl b => i == (if b then 1 else 0)
  | .int i, .int j => i == j
  | .str x, .str y => x == y
  | .lst xs, .lst ys => D.eqvs xs ys
  | .tup xs, .tup ys => D.eqvs xs ys
  | _, _ => false
def D.eqvs : List D → List D → Bool
  | [], [] => true
  | x :: xs, y :: ys => D.eqv x y && D.eqvs xs ys
  | _, _ => false
end
mutual
/-- data without dicts and cells, n deep at most -/
def D.plain : Nat → D → Bool
  | _, .non => true
  | _, .bl _ => true
  | _, .int _ => true
  | _, .str s => s.all fun c => decide (c < 1114112)
  | 0, _ => false
  | n + 1, .lst xs => D.plains n xs
  | n + 1, .tup xs => D.plains n xs
  | _, _ => false
def D.plains : Nat → List D → Bool
  | _, [] => true
  | n, x :: xs => D.plain n x && D.plains n xs
end
mutual
/-- no cell from n on -/
def D.low (n : Nat) : D → Bool
  | .ref l => decide (l < n)
  | .tup xs => D.lows n xs
  | .lst xs => D.lows n xs
  | .dct ks vs => D.lows n ks && D.lows n vs
  | .scr xs => D.lows n xs
  | _ => true
def D.lows (n : Nat) : List D → Bool
  | [] => true
  | x :: xs => D.low n x && D.lows n xs
end
def Ob.low (n : Nat) : Ob → Bool
  | .lst xs => D.lows n xs
  | .dct ks vs => D.lows n ks && D.lows n vs
  | .ins _ fs => fs.all fun p => D.low n p.2
def flat : D → Bool
  | .non | .bl _ | .int _ | .str _ => true
  | _ => false
def isKey : D → Bool
  | .int _ | .str _ => true
  | _ => false
/-- the place of a key -/
def keyAt (k : D) : List D → List D → Option D
  | x :: xs, y :: ys => if D.eqv x k then some y else keyAt k xs ys
  | _, _ => none
def repl (k v : D) : List D → List D → List D
  | x :: xs, y :: ys => (if D.eqv x k then v else y) :: repl k v xs ys
  | _, ys => ys
/-- k set to v: the keys, the values -/
def putAt (k v : D) (ks vs : List D) : List D × List D := if ks.any (fun x => D.eqv x k) then (ks, repl k v ks vs) else (ks ++ [k], vs ++ [v])
/-- a text's signs, each with an item -/
def zipPut : List Nat → List D → List D → List D → List D × List D
  | c :: cs, x :: xs, ks, vs => zipPut cs xs (putAt (.str [c]) x ks vs).1 (putAt (.str [c]) x ks vs).2
  | _, _, ks, vs => (ks, vs)
/-- the values in the parameters' order -/
def permL {α : Type} (perm : List Nat) (us ws : List α) : List α := perm.filterMap fun i => (us ++ ws)[i]?
def small (i : Int) : Bool := Nat.blt i.natAbs 18446744073709551616
/-- the items of a list, frozen or in a cell -/
def lstOf (h : Hh) : D → Option (List D)
  | .lst xs => some xs
  | .scr xs => some xs
  | .ref l => match h[l]? with
    | some (.lst xs) => some xs
    | _ => none
  | _ => none
def dctOf (h : Hh) : D → Option (List D × List D)
  | .dct ks vs => some (ks, vs)
  | .ref l => match h[l]? with
    | some (.dct ks vs) => some (ks, vs)
    | _ => none
  | _ => none
def lt2 (o : Op) (b : Bool) : Bool := b
def eqD (x y : D) : Option Bool :=
  if flat x && flat y then some (D.eqv x y) else if D.plain 60 x && D.plain 60 y then some (D.eqv x y) else none
def inD (h : Hh) (x y : D) : Option Bool := match y with
  | .str s => (match x with
    | .str [c] => some (s.contains c)
    | _ => none)
  | .tup ys => if flat x && ys.all flat then some (ys.any fun z => D.eqv z x) else if D.plain 60 x && D.plain 60 (.tup ys) then some (ys.any fun z => D.eqv z x) else none
  | y => (match lstOf h y with
    | some ys => if flat x && ys.all flat then some (ys.any fun z => D.eqv z x) else none
    | none => match dctOf h y with
      | some (ks, vs) => if isKey x && ks.all isKey then some (keyAt x ks vs).isSome else none
      | none => none)
def op2 (h : Hh) : Op → D → D → Option D
  | .add, .int i, .int j => some (.int (i + j))
  | .add, .str a, .str b => if a.length + b.length ≤ lim then some (.str (a ++ b)) else none
  | .add, .lst a, .lst b => if a.length + b.length ≤ lim then some (.lst (a ++ b)) else none
  | .sub, .int i, .int j => some (.int (i - j))
  | .mul, .int i, .int j => if small i || small j then some (.int (i * j)) else none
  | .mul, .str s, .int k => if 0 ≤ k ∧ k ≤ 200 ∧ s.length ≤ 200 then some (.str (List.replicate k.toNat s).flatten) else none
  | .mul, .lst xs, .int k => if 0 ≤ k ∧ k ≤ 200 ∧ xs.length ≤ 200 then some (.lst (List.replicate k.toNat xs).flatten) else none
  | .fdiv, .int i, .int j => if 0 < j ∧ j < 1073741824 then some (.int (i / j)) else none
  | .mod, .int i, .int j => if 0 < j then some (.int (i % j)) else none
  | .pow, .int i, .int j => if 0 ≤ j ∧ j ≤ 1000 ∧ i.natAbs < 2 ^ 10000 then some (.int (i ^ j.toNat)) else none
  | .lt, .int i, .int j => some (.bl (decide (i < j)))
  | .le, .int i, .int j => some (.bl (decide (i ≤ j)))
  | .gt, .int i, .int j => some (.bl (decide (j < i)))
  | .ge, .int i, .int j => some (.bl (decide (j ≤ i)))
  | .lt, .str a, .str b => some (.bl (decide (a < b)))
  | .eq, x, y => (eqD x y).map D.bl
  | .ne, x, y => (eqD x y).map fun b => D.bl !b
  | .isn, x, .non => some (.bl (match x with | .non => true | _ => false))
  | .notn, x, .non => some (.bl (match x with | .non => false | _ => true))
  | .inn, x, y => (inD h x y).map D.bl
  | .nin, x, y => (inD h x y).map fun b => D.bl !b
  | _, _, _ => none
def intsOf : List D → Option (List Int)
  | [] => some []
  | .int i :: r => (intsOf r).map (i :: ·)
  | _ :: _ => none
def boolsOf : List D → Option (List Bool)
  | [] => some []
  | .bl i :: r => (boolsOf r).map (i :: ·)
  | _ :: _ => none
def minI : Int → List Int → Int
  | m, [] => m
  | m, i :: r => minI (if i < m then i else m) r
def maxI : Int → List Int → Int
  | m, [] => m
  | m, i :: r => maxI (if m < i then i else m) r
def isDig (c : Nat) : Bool := decide (48 ≤ c) && decide (c ≤ 57)
def digV : Nat → List Nat → Nat
  | a, [] => a
  | a, c :: cs => digV (a * 10 + (c - 48)) cs
def bi1 (h : Hh) : Bi → D → Option D
  | .len, .str s => if s.length ≤ lim then some (.int s.length) else none
  | .len, .tup xs => some (.int xs.length)
  | .len, x => (match lstOf h x with
    | some xs => some (.int xs.length)
    | none => match dctOf h x with
      | some (ks, vs) => if ks.all isKey then some (.int ks.length) else none
      | none => none)
  | .abs, .int i => some (.int (if i < 0 then -i else i))
  | .int, .int i => some (.int i)
  | .int, .bl b => some (.int (if b then 1 else 0))
  | .int, .str s => if s.length ≤ 640 && s.all isDig && decide (0 < s.length) then some (.int (digV 0 s)) else none
  | .all, x => (lstOf h x).bind fun xs => (boolsOf xs).map fun bs => .bl (bs.all id)
  | .any, x => (lstOf h x).bind fun xs => (boolsOf xs).map fun bs => .bl (bs.any id)
  | .min, x => (lstOf h x).bind fun xs => (intsOf xs).bind fun ns => match ns with
    | [] => none
    | n :: r => some (.int (minI n r))
  | .max, x => (lstOf h x).bind fun xs => (intsOf xs).bind fun ns => match ns with
    | [] => none
    | n :: r => some (.int (maxI n r))
  | .tuple, .tup xs => some (.tup xs)
  | .tuple, x => (lstOf h x).map D.tup
  | .list, .tup xs => some (.lst xs)
  | .list, x => (lstOf h x).map D.lst
  | .sum, x => (lstOf h x).bind fun xs => (intsOf xs).map fun ns => .int ns.sum
  | .str, .int i => if 0 ≤ i ∧ i < 1000000000 then some (.str ((Nat.toDigits 10 i.toNat).map Char.toNat)) else none
  | _, _ => none
def bi2 : Bi → D → D → Option D
  | .min, .int i, .int j => some (.int (if j < i then j else i))
  | .max, .int i, .int j => some (.int (if j > i then j else i))
  | _, _, _ => none
def biF (h : Hh) (b : Bi) (ds : List D) : Option D := match ds with
  | [x] => bi1 h b x
  | [x, y] => bi2 b x y
  | _ => none
def isiF (h : Hh) (t : Ty) : D → Option Bool
  | .non => some (decide (t = .none))
  | .bl _ => some (decide (t = .bool) || decide (t = .int))
  | .int _ => some (decide (t = .int))
  | .str _ => some (decide (t = .str))
  | .tup _ => some (decide (t = .tuple))
  | .lst _ => some (decide (t = .list))
  | .scr _ => some (decide (t = .list))
  | .dct _ _ => some (decide (t = .dict))
  | .ref l => (match h[l]? with
    | some (.lst _) => some (decide (t = .list))
    | some (.dct _ _) => some (decide (t = .dict))
    | _ => none)
/-- xs[i], any sign -/
def atD (xs : List D) (i : Int) : Option D := if 0 ≤ i then xs[i.toNat]? else if 0 ≤ (xs.length : Int) + i then xs[((xs.length : Int) + i).toNat]? else none
def idxL (xs : List D) (y : D) : Option D := match y with
  | .int i => atD xs i
  | _ => none
def idxO (h : Hh) (x y : D) : Option D := match lstOf h x with
  | some xs => idxL xs y
  | none => match dctOf h x with
    | some (ks, vs) => if isKey y && ks.all isKey then keyAt y ks vs else none
    | none => none
def idxF (h : Hh) (x y : D) : Option D := match x with
  | .tup xs => idxL xs y
  | .str s => (match y with
    | .int i => if 0 ≤ i ∧ s.length ≤ lim then (s[i.toNat]?).map fun c => D.str [c] else none
    | _ => none)
  | x => idxO h x y
/-- a slice's end, cut to the length -/
def cutI (n : Nat) (i : Int) : Nat := if i < 0 then ((n : Int) + i).toNat else min i.toNat n
def cutL {α : Type} (xs : List α) (lo hi : Nat) : List α := (xs.drop lo).take (hi - lo)
def slF (h : Hh) (x : D) (lo hi : Option Int) : Option D := match x with
  | .str s => if s.length ≤ lim then some (.str (cutL s ((lo.map (cutI s.length)).getD 0) ((hi.map (cutI s.length)).getD s.length))) else none
  | .tup xs => some (.tup (cutL xs ((lo.map (cutI xs.length)).getD 0) ((hi.map (cutI xs.length)).getD xs.length)))
  | x => (lstOf h x).map fun xs => .lst (cutL xs ((lo.map (cutI xs.length)).getD 0) ((hi.map (cutI xs.length)).getD xs.length))
def look (δ : Ev) (i : Nat) : Option D := (δ[i]?).getD none
def setAll : Ev → List Nat → List D → Option Ev
  | δ, [], [] => some δ
  | δ, i :: is, d :: ds => setAll (δ.set i (some d)) is ds
  | _, _, _ => none
/-- a target takes a value -/
def put (tg : Tg) (d : D) (δ : Ev) : Option Ev := match tg with
  | .nm i => some (δ.set i (some d))
  | .tp is => match d with
    | .tup xs => setAll δ is xs
    | _ => none
def wipeE (δ : Ev) : List Nat → Ev
  | [] => δ
  | i :: is => (wipeE δ is).set i none
/-- what is walked: the items; a list in a cell that must stand still -/
structure Src where
  items : List D
  cell : Option (Nat × List D)
def Src.still (s : Src) (h : Hh) : Bool := match s.cell with
  | none => true
  | some (l, _) => match h[l]? with
    | some (.lst xs) => decide (xs.length = s.items.length)
    | _ => false
def seqOf (h : Hh) : D → Option (List D)
  | .tup xs => some xs
  | .lst xs => some xs
  | .scr xs => some xs
  | .str s => some (s.map fun c => D.str [c])
  | _ => none
def rangeL (lo hi : Int) : List D := (List.range (hi - lo).toNat).map fun (k : Nat) => D.int (lo + (k : Int))
def rangeD (lo hi : Int) : List D := (List.range (lo - hi).toNat).map fun (k : Nat) => D.int (lo + (k : Int) * -1)
def joinL (a : List Nat) : List (List Nat) → List Nat
  | [] => []
  | [x] => x
  | x :: y :: r => x ++ a ++ joinL a (y :: r)
def textsOf : List D → Option (List (List Nat))
  | [] => some []
  | .str s :: r => (textsOf r).map (s :: ·)
  | _ => none
/-- the items of a list or a tuple -/
def ltOf (h : Hh) : D → Option (List D)
  | .tup xs => some xs
  | x => lstOf h x
def enumL : Nat → List D → List D
  | _, [] => []
  | k, x :: xs => .tup [.int k, x] :: enumL (k + 1) xs
def zipL : List D → List D → List D
  | x :: xs, y :: ys => .tup [x, y] :: zipL xs ys
  | _, _ => []
/-- key and value in turn -/
def pairUp : List D → Option (List (D × D))
  | [] => some []
  | k :: v :: r => (pairUp r).map ((k, v) :: ·)
  | _ => none
def dspPut : List (D × D) → List D → List D → List D × List D
  | [], ks, vs => (ks, vs)
  | (k, v) :: r, ks, vs => dspPut r (putAt k v ks vs).1 (putAt k v ks vs).2
/-- o[i] = v -/
def setF (h : Hh) (o i v : D) : Option Hh := match o with
  | .ref l => (match h[l]? with
    | some (.lst xs) => (match i with
      | .int k => if 0 ≤ k ∧ k.toNat < xs.length then some (h.set l (.lst (xs.set k.toNat v))) else none
      | _ => none)
    | some (.dct ks vs) => if isKey i && ks.all isKey && decide (ks.length < lim) then some (h.set l (.dct (putAt i v ks vs).1 (putAt i v ks vs).2)) else none
    | _ => none)
  | _ => none
def within (i : Int) : Bool := Nat.blt i.natAbs 4611686018427387904
/-- a list in a cell, or as it is -/
def drf (h : Hh) (d : D) : D := match d with
  | .ref l => (match h[l]? with
    | some (.lst xs) => .lst xs
    | _ => d)
  | d => d
mutual
/-- the same data -/
def same : D → D → Bool
  | .non, .non => true
  | .bl a, .bl b => a == b
  | .int i, .int j => i == j
  | .str x, .str y => x == y
  | .tup xs, .tup ys => sames xs ys
  | .lst xs, .lst ys => sames xs ys
  | _, _ => false
def sames : List D → List D → Bool
  | [], [] => true
  | x :: xs, y :: ys => same x y && sames xs ys
  | _, _ => false
end
mutual
/-- small numbers alone; what it weighs -/
def D.shw : D → Bool
  | .int i => decide (i.natAbs < 1000)
  | .tup xs => D.shws xs
  | .lst xs => D.shws xs
  | .non => true
  | .bl _ => true
  | .str _ => true
  | _ => false
def D.shws : List D → Bool
  | [] => true
  | x :: xs => D.shw x && D.shws xs
end
mutual
def D.wgt : D → Nat
  | .int _ => 10
  | .tup xs => D.wgts xs
  | .lst xs => D.wgts xs
  | .str s => s.length
  | _ => 0
def D.wgts : List D → Nat
  | [] => 0
  | x :: xs => D.wgt x + 1 + D.wgts xs
end
def topR : D → Bool
  | .int _ => true
  | .tup _ => true
  | .lst _ => true
  | _ => false
def repOk (d : D) : Bool := topR d && D.plain 50 d && D.shw d && decide (D.wgt d ≤ 1000000)
/-- pairs of a key and a value -/
def pairsOf : List D → Option (List (D × D))
  | [] => some []
  | .tup [k, v] :: r => if isKey k then (pairsOf r).map ((k, v) :: ·) else none
  | _ => none
def fget (fs : List (Nat × D)) (f : Nat) : Option D := match fs with
  | [] => none
  | (g, d) :: r => if g = f then some d else fget r f
def fput (fs : List (Nat × D)) (f : Nat) (d : D) : List (Nat × D) := match fs with
  | [] => [(f, d)]
  | (g, e) :: r => if g = f then (f, d) :: r else (g, e) :: fput r f d

/-! ### the interpreter -/
inductive Kind where
  | glob | meth | prop | init | stat
deriving DecidableEq
structure DefI where
  kind : Kind
  /-- the class whose method it is -/
  cls : Option Nat
  slots : Nat
  npar : Nat
  mode : Mode
  body : SL
structure Pg where
  defs : List DefI
  consts : List D
abbrev Fn := Nat → List D → Hh → Option (D × Hh)
def boolOf : D → Option Bool
  | .bl b => some b
  | _ => none
def insAt (h : Hh) (d : D) : Option (Nat × Nat × List (Nat × D)) := match d with
  | .ref l => match h[l]? with
    | some (.ins c fs) => some (l, c, fs)
    | _ => none
  | _ => none
/-- one turn after another -/
def lcLoop (tg : Tg) (c e : Ev → Hh → Option (D × Hh)) (δ : Ev) : List D → Hh → Option (List D × Hh)
  | [], h => some ([], h)
  | x :: xs, h => (put tg x δ).bind fun δ1 => (c δ1 h).bind fun p => match p.1 with
    | .bl true => (e δ1 p.2).bind fun q => (lcLoop tg c e δ xs q.2).map fun r => (q.1 :: r.1, r.2)
    | .bl false => lcLoop tg c e δ xs p.2
    | _ => none
def dcLoop (tg : Tg) (k v : Ev → Hh → Option (D × Hh)) (δ : Ev) : List D → List D × List D → Hh → Option ((List D × List D) × Hh)
  | [], a, h => some (a, h)
  | x :: xs, a, h => (put tg x δ).bind fun δ1 => (k δ1 h).bind fun p => (v δ1 p.2).bind fun q => if isKey p.1 then dcLoop tg k v δ xs (putAt p.1 q.1 a.1 a.2) q.2 else none
mutual
def ev (P : Pg) (Φ : Fn) : E → Ev → Hh → Option (D × Hh)
  | .var i, δ, h => (look δ i).map fun d => (d, h)
  | .cst d, _, h => some (d, h)
  | .glo g, _, h => (P.consts[g]?).map fun d => (d, h)
  | .bin o a b, δ, h => (ev P Φ a δ h).bind fun p => (ev P Φ b δ p.2).bind fun q => (op2 q.2 o p.1 q.1).map fun d => (d, q.2)
  | .cmp o a b, δ, h => (ev P Φ a δ h).bind fun p => (ev P Φ b δ p.2).bind fun q => (op2 q.2 o p.1 q.1).map fun d => (d, q.2)
  | .chain o o' a b c, δ, h => (ev P Φ a δ h).bind fun p => (ev P Φ b δ p.2).bind fun q => (op2 q.2 o p.1 q.1).bind fun d => match d with
    | .bl true => (ev P Φ c δ q.2).bind fun r => (op2 r.2 o' q.1 r.1).map fun d => (d, r.2)
    | .bl false => some (.bl false, q.2)
    | _ => none
  | .neg a, δ, h => (ev P Φ a δ h).bind fun p => match p.1 with
    | .int i => some (.int (-i), p.2)
    | _ => none
  | .andV a b, δ, h => (ev P Φ a δ h).bind fun p => match p.1 with
    | .bl true => ev P Φ b δ p.2
    | .bl false => some (.bl false, p.2)
    | _ => none
  | .orV a b, δ, h => (ev P Φ a δ h).bind fun p => match p.1 with
    | .bl false => ev P Φ b δ p.2
    | .bl true => some (.bl true, p.2)
    | _ => none
  | .notV a, δ, h => (ev P Φ a δ h).bind fun p => match p.1 with
    | .bl b => some (.bl !b, p.2)
    | _ => none
  | .ite t a b, δ, h => (ev P Φ t δ h).bind fun p => match p.1 with
    | .bl true => ev P Φ a δ p.2
    | .bl false => ev P Φ b δ p.2
    | _ => none
  | .tup es, δ, h => (evs P Φ es δ h).map fun p => (.tup p.1, p.2)
  | .lst es, δ, h => (evs P Φ es δ h).map fun p => (.lst p.1, p.2)
  | .mlst es, δ, h => (evs P Φ es δ h).map fun p => (.ref p.2.length, p.2 ++ [.lst p.1])
  | .mdct, _, h => some (.ref h.length, h ++ [.dct [] []])
  | .call f es, δ, h => (evs P Φ es δ h).bind fun p => Φ f p.1 p.2
  | .meth f o es, δ, h => (ev P Φ o δ h).bind fun p => (insAt p.2 p.1).bind fun i => (evs P Φ es δ p.2).bind fun q => match P.defs[f]? with
    | some d => if d.cls = some i.2.1 then Φ f (p.1 :: q.1) q.2 else none
    | none => none
  | .prop f o, δ, h => (ev P Φ o δ h).bind fun p => (insAt p.2 p.1).bind fun i => match P.defs[f]? with
    | some d => if d.cls = some i.2.1 then Φ f [p.1] p.2 else none
    | none => none
  | .has n f a o, δ, h => (ev P Φ a δ h).bind fun q => (ev P Φ o δ q.2).bind fun p => (insAt p.2 p.1).bind fun i => match P.defs[f]? with
    | some d => if d.cls = some i.2.1 then (Φ f [p.1, q.1] p.2).bind fun r => match r.1 with
        | .bl b => some (.bl (if n then !b else b), r.2)
        | _ => none
      else none
    | none => none
  | .make f es, δ, h => (evs P Φ es δ h).bind fun p => match P.defs[f]? with
    | some d => (match d.cls with
      | some c => (Φ f (.ref p.2.length :: p.1) (p.2 ++ [.ins c []])).bind fun q => match q.1 with
        | .non => some (.ref p.2.length, q.2)
        | _ => none
      | none => none)
    | none => none
  | .makeK f es ks perm, δ, h => (evs P Φ es δ h).bind fun p => (evs P Φ ks δ p.2).bind fun p2 => match P.defs[f]? with
    | some d => (match d.cls with
      | some c => (Φ f (permL perm (.ref p2.2.length :: p.1) p2.1) (p2.2 ++ [.ins c []])).bind fun q => match q.1 with
        | .non => some (.ref p2.2.length, q.2)
        | _ => none
      | none => none)
    | none => none
  | .fld c o f, δ, h => (ev P Φ o δ h).bind fun p => (insAt p.2 p.1).bind fun i => if i.2.1 = c then (fget i.2.2 f).map fun d => (d, p.2) else none
  | .bi b es, δ, h => (evs P Φ es δ h).bind fun p => (biF p.2 b p.1).map fun d => (d, p.2)
  | .isi a t, δ, h => (ev P Φ a δ h).bind fun p => (isiF p.2 t p.1).map fun b => (.bl b, p.2)
  | .idx a b, δ, h => (ev P Φ a δ h).bind fun p => (ev P Φ b δ p.2).bind fun q => (idxF q.2 p.1 q.1).map fun d => (d, q.2)
  | .sl a lo hi, δ, h => (ev P Φ a δ h).bind fun p => (ev P Φ lo δ p.2).bind fun q => (ev P Φ hi δ q.2).bind fun r => match q.1, r.1 with
    | .int i, .int j => (slF r.2 p.1 (some i) (some j)).map fun d => (d, r.2)
    | _, _ => none
  | .slT a lo, δ, h => (ev P Φ a δ h).bind fun p => (ev P Φ lo δ p.2).bind fun q => match q.1 with
    | .int i => (slF q.2 p.1 (some i) none).map fun d => (d, q.2)
    | _ => none
  | .slH a hi, δ, h => (ev P Φ a δ h).bind fun p => (ev P Φ hi δ p.2).bind fun q => match q.1 with
    | .int i => (slF q.2 p.1 none (some i)).map fun d => (d, q.2)
    | _ => none
  | .lc tg own it c e, δ, h => (evI P Φ it δ h).bind fun p => if p.1.length < lim then (lcLoop tg (ev P Φ c) (ev P Φ e) (wipeE δ own) p.1 p.2).map fun q => (.lst q.1, q.2) else none
  | .dc tg own it k v, δ, h => (evI P Φ it δ h).bind fun p => if p.1.length < lim then (dcLoop tg (ev P Φ k) (ev P Φ v) (wipeE δ own) p.1 ([], []) p.2).map fun q => (.dct q.1.1 q.1.2, q.2) else none
  | .stat f es, δ, h => (evs P Φ es δ h).bind fun p => Φ f p.1 p.2
  | .statK f ks perm, δ, h => (evs P Φ ks δ h).bind fun p => Φ f (permL perm [] p.1) p.2
  | .dz a b, δ, h => (ev P Φ a δ h).bind fun p => (ev P Φ b δ p.2).bind fun q => match p.1, q.1 with
    | .str s, .tup xs => some (.ref q.2.length, q.2 ++ [.dct (zipPut s xs [] []).1 (zipPut s xs [] []).2])
    | _, _ => none
  | .chain3 o1 o2 o3 a b c d, δ, h => (ev P Φ a δ h).bind fun p => (ev P Φ b δ p.2).bind fun q => (op2 q.2 o1 p.1 q.1).bind fun t => match t with
    | .bl true => (ev P Φ c δ q.2).bind fun r => (op2 r.2 o2 q.1 r.1).bind fun t => (match t with
      | .bl true => (ev P Φ d δ r.2).bind fun u => (op2 u.2 o3 r.1 u.1).map fun t => (t, u.2)
      | .bl false => some (.bl false, r.2)
      | _ => none)
    | .bl false => some (.bl false, q.2)
    | _ => none
  | .dsp kvs, δ, h => (evs P Φ kvs δ h).bind fun p => (pairUp p.1).bind fun ps => if ps.all (fun q => isKey q.1) then some (.ref p.2.length, p.2 ++ [.dct (dspPut ps [] []).1 (dspPut ps [] []).2]) else none
  | .inR n x a b, δ, h => (ev P Φ x δ h).bind fun p => (ev P Φ a δ p.2).bind fun q => (ev P Φ b δ q.2).bind fun r => match q.1, r.1 with
    | .int lo, .int hi => if within lo && within hi then (match p.1 with
      | .int i => some (.bl (if n then !decide (lo ≤ i ∧ i < hi) else decide (lo ≤ i ∧ i < hi)), r.2)
      | .non => some (.bl n, r.2)
      | _ => none) else none
    | _, _ => none
  | .join a b, δ, h => (ev P Φ a δ h).bind fun p => (ev P Φ b δ p.2).bind fun q => match p.1 with
    | .str s => ((ltOf q.2 q.1).bind textsOf).bind fun ts => if s.length ≤ 100 ∧ ts.length ≤ 1000 ∧ (ts.map List.length).sum ≤ lim then some (.str (joinL s ts), q.2) else none
    | _ => none
  | .rev a, δ, h => (ev P Φ a δ h).bind fun p => (lstOf p.2 p.1).map fun xs => (.lst xs.reverse, p.2)
  | .upd o e, δ, h => (ev P Φ o δ h).bind fun p => (ev P Φ e δ p.2).bind fun q => match p.1, q.1 with
    | .ref l, .dct ks vs => (match p.2[l]?, q.2[l]? with
      | some (.dct _ _), some (.dct ks0 vs0) => if ks0.length + ks.length < lim then some (.non, q.2.set l (.dct (dspPut (ks.zip vs) ks0 vs0).1 (dspPut (ks.zip vs) ks0 vs0).2)) else none
      | _, _ => none)
    | _, _ => none
  | .callG f es, δ, h => (evs P Φ es δ h).bind fun p => Φ f p.1 p.2
  | .methK f o ks perm, δ, h => (ev P Φ o δ h).bind fun p => (insAt p.2 p.1).bind fun i => (evs P Φ ks δ p.2).bind fun q => match P.defs[f]? with
    | some d => if d.cls = some i.2.1 then Φ f (permL perm [p.1] q.1) q.2 else none
    | none => none
  | .popA o i, δ, h => (ev P Φ o δ h).bind fun p => (ev P Φ i δ p.2).bind fun q => match p.1, q.1 with
    | .ref l, .int k => (match p.2[l]?, q.2[l]? with
      | some (.lst _), some (.lst xs) => if 0 ≤ k ∧ within k = true then (xs[k.toNat]?).map fun y => (y, q.2.set l (.lst (xs.eraseIdx k.toNat))) else none
      | _, _ => none)
    | _, _ => none
  | .popL o, δ, h => (ev P Φ o δ h).bind fun p => match p.1 with
    | .ref l => (match p.2[l]? with
      | some (.lst xs) => (xs[xs.length - 1]?).map fun y => (y, p.2.set l (.lst xs.dropLast))
      | _ => none)
    | _ => none
  | .ext o e, δ, h => (ev P Φ o δ h).bind fun p => (ev P Φ e δ p.2).bind fun q => match p.1, q.1 with
    | .ref l, .lst zs => (match p.2[l]?, q.2[l]? with
      | some (.lst _), some (.lst xs) => if xs.length + zs.length < lim then some (.non, q.2.set l (.lst (xs ++ zs))) else none
      | _, _ => none)
    | _, _ => none
  | .mslH a hi, δ, h => (ev P Φ a δ h).bind fun p => (ev P Φ hi δ p.2).bind fun q => match q.1 with
    | .int i => (lstOf q.2 p.1).map fun xs => (.ref q.2.length, q.2 ++ [.lst (cutL xs 0 (cutI xs.length i))])
    | _ => none
  | .dpr e, δ, h => (ev P Φ e δ h).bind fun p => match p.1 with
    | .lst ds => (pairsOf ds).map fun ps => (.ref p.2.length, p.2 ++ [.dct (dspPut ps [] []).1 (dspPut ps [] []).2])
    | _ => none
  | .eqR n a b, δ, h => (ev P Φ a δ h).bind fun p => (ev P Φ b δ p.2).bind fun q => if repOk (drf p.2 p.1) && same (drf p.2 p.1) (drf q.2 q.1) then some (.bl !n, q.2) else none
  | .emp n a, δ, h => (ev P Φ a δ h).bind fun p => match drf p.2 p.1 with
    | .lst xs => if D.plains 50 xs then some (.bl (if n then !xs.isEmpty else xs.isEmpty), p.2) else none
    | _ => none
  | .app o e, δ, h => (ev P Φ o δ h).bind fun p => (ev P Φ e δ p.2).bind fun q => match p.1 with
    | .ref l => (match p.2[l]?, q.2[l]? with
      | some (.lst _), some (.lst xs) => if xs.length < lim then some (.non, q.2.set l (.lst (xs ++ [q.1]))) else none
      | _, _ => none)
    | _ => none
def evs (P : Pg) (Φ : Fn) : EL → Ev → Hh → Option (List D × Hh)
  | .nil, _, h => some ([], h)
  | .cons e es, δ, h => (ev P Φ e δ h).bind fun p => (evs P Φ es δ p.2).map fun q => (p.1 :: q.1, q.2)
def evI (P : Pg) (Φ : Fn) : It → Ev → Hh → Option (List D × Hh)
  | .seq e, δ, h => (ev P Φ e δ h).bind fun p => (seqOf p.2 p.1).map fun xs => (xs, p.2)
  | .range1 a, δ, h => (ev P Φ a δ h).bind fun p => match p.1 with
    | .int n => if within n then some (rangeL 0 n, p.2) else none
    | _ => none
  | .range2 a b, δ, h => (ev P Φ a δ h).bind fun p => (ev P Φ b δ p.2).bind fun q => match p.1, q.1 with
    | .int m, .int n => if within m && within n then some (rangeL m n, q.2) else none
    | _, _ => none
  | .down a b, δ, h => (ev P Φ a δ h).bind fun p => (ev P Φ b δ p.2).bind fun q => match p.1, q.1 with
    | .int m, .int n => if within m && within n then some (rangeD m n, q.2) else none
    | _, _ => none
  | .enum e, δ, h => (ev P Φ e δ h).bind fun p => (seqOf p.2 p.1).map fun xs => (enumL 0 xs, p.2)
  | .zip a b, δ, h => (ev P Φ a δ h).bind fun p => (ev P Φ b δ p.2).bind fun q => (seqOf q.2 p.1).bind fun xs => (seqOf q.2 q.1).map fun ys => (zipL xs ys, q.2)
end
def forLoop (tg : Tg) (b : Ev → Hh → Option Out) : List D → Ev → Hh → Option Out
  | [], δ, h => some (.nx δ h)
  | x :: xs, δ, h => (put tg x δ).bind fun δ1 => (b δ1 h).bind fun o => match o with
    | .nx δ2 h2 => forLoop tg b xs δ2 h2
    | .ct δ2 h2 => forLoop tg b xs δ2 h2
    | .bk δ2 h2 => some (.nx δ2 h2)
    | .rt d h2 => some (.rt d h2)
def whileLoop (t : Ev → Hh → Option (D × Hh)) (b : Ev → Hh → Option Out) : Nat → Ev → Hh → Option Out
  | 0, _, _ => none
  | n + 1, δ, h => (t δ h).bind fun p => match p.1 with
    | .bl false => some (.nx δ p.2)
    | .bl true => (b δ p.2).bind fun o => match o with
      | .nx δ2 h2 => whileLoop t b n δ2 h2
      | .ct δ2 h2 => whileLoop t b n δ2 h2
      | .bk δ2 h2 => some (.nx δ2 h2)
      | .rt d h2 => some (.rt d h2)
    | _ => none
/-- each target takes its value, from left to right -/
def putsX (P : Pg) (Φ : Fn) : List TX → List D → Ev → Hh → Option (Ev × Hh)
  | [], [], δ, h => some (δ, h)
  | .nm i :: ts, d :: ds, δ, h => putsX P Φ ts ds (δ.set i (some d)) h
  | .sub o k :: ts, d :: ds, δ, h => (ev P Φ o δ h).bind fun q => (ev P Φ k δ q.2).bind fun r => (setF r.2 q.1 r.1 d).bind fun h2 => putsX P Φ ts ds δ h2
  | _, _, _, _ => none
mutual
def ex (P : Pg) (Φ : Fn) : S → Ev → Hh → Option Out
  | .asg tg e, δ, h => (ev P Φ e δ h).bind fun p => (put tg p.1 δ).map fun δ1 => .nx δ1 p.2
  | .asgF c o f e, δ, h => (ev P Φ e δ h).bind fun p => (ev P Φ o δ p.2).bind fun q => (insAt q.2 q.1).bind fun i => if i.2.1 = c ∧ i.2.2.length < 900 then some (.nx δ (q.2.set i.1 (.ins i.2.1 (fput i.2.2 f p.1)))) else none
  | .asgI o i e, δ, h => (ev P Φ e δ h).bind fun p => (ev P Φ o δ p.2).bind fun q => (ev P Φ i δ q.2).bind fun r => match q.1 with
    | .ref l => (match r.2[l]? with
      | some (.lst xs) => (match r.1 with
        | .int k => if 0 ≤ k ∧ k.toNat < xs.length then some (.nx δ (r.2.set l (.lst (xs.set k.toNat p.1)))) else none
        | _ => none)
      | some (.dct ks vs) => if isKey r.1 && ks.all isKey && decide (ks.length < lim) then some (.nx δ (r.2.set l (.dct (putAt r.1 p.1 ks vs).1 (putAt r.1 p.1 ks vs).2))) else none
      | _ => none)
    | _ => none
  | .par i j a b, δ, h => (ev P Φ a δ h).bind fun p => (ev P Φ b δ p.2).map fun q => .nx ((δ.set i (some p.1)).set j (some q.1)) q.2
  | .asgT ts es, δ, h => (evs P Φ es δ h).bind fun p => (putsX P Φ ts p.1 δ p.2).map fun q => .nx q.1 q.2
  | .aug i o e, δ, h => (look δ i).bind fun d => (ev P Φ e δ h).bind fun p => match d, p.1 with
    | .int _, .int _ => (op2 p.2 o d p.1).map fun r => .nx (δ.set i (some r)) p.2
    | _, _ => none
  | .augF c o f op e, δ, h => (ev P Φ o δ h).bind fun p => (insAt p.2 p.1).bind fun i => (fget i.2.2 f).bind fun d => (ev P Φ e δ p.2).bind fun q => (insAt q.2 p.1).bind fun j => match d, q.1 with
    | .int _, .int _ => if i.2.1 = c ∧ j.2.1 = c ∧ j.2.2.length < 900 then (op2 q.2 op d q.1).map fun r => .nx δ (q.2.set j.1 (.ins j.2.1 (fput j.2.2 f r))) else none
    | _, _ => none
  | .expr e, δ, h => (ev P Φ e δ h).map fun p => .nx δ p.2
  | .ret e, δ, h => (ev P Φ e δ h).map fun p => .rt p.1 p.2
  | .retN, _, h => some (.rt .non h)
  | .ite t a b, δ, h => (ev P Φ t δ h).bind fun p => match p.1 with
    | .bl true => exs P Φ a δ p.2
    | .bl false => exs P Φ b δ p.2
    | _ => none
  | .for tg it b, δ, h => (evI P Φ it δ h).bind fun p => forLoop tg (exs P Φ b) p.1 δ p.2
  | .while t b, δ, h => whileLoop (ev P Φ t) (exs P Φ b) 1000000 δ h
  | .pass, δ, h => some (.nx δ h)
  | .brk, δ, h => some (.bk δ h)
  | .cont, δ, h => some (.ct δ h)
  | .never, _, _ => none
def exs (P : Pg) (Φ : Fn) : SL → Ev → Hh → Option Out
  | .nil, δ, h => some (.nx δ h)
  | .cons s ss, δ, h => (ex P Φ s δ h).bind fun o => match o with
    | .nx δ1 h1 => exs P Φ ss δ1 h1
    | o => some o
end
/-- the first n cells, as they stand, without what was made since -/
def cutH (n : Nat) (h : Hh) : Option Hh := if (h.take n).all (Ob.low n) && decide (n ≤ h.length) then some (h.take n) else none
def back (m : Mode) (n : Nat) (d : D) (h : Hh) : Option (D × Hh) := match m with
  | .raw => some (d, h)
  | .clo => if h.length = n then some (d, h) else if D.low n d then (cutH n h).map fun h1 => (d, h1) else none
  | .frz => match d with
    | .ref l => if n ≤ l then (match h[l]? with
        | some (.lst xs) => if D.lows n xs then (cutH n h).map fun h1 => (.lst xs, h1) else none
        | some (.dct ks vs) => if D.lows n ks && D.lows n vs then (cutH n h).map fun h1 => (.dct ks vs, h1) else none
        | _ => none)
      else none
    | d => if D.low n d then (cutH n h).map fun h1 => (d, h1) else none
/-- a def called, n calls deep at most -/
def run (P : Pg) : Nat → Fn
  | 0, _, _, _ => none
  | n + 1, f, ds, h => match P.defs[f]? with
    | some d => if ds.length = d.npar then (exs P (run P n) d.body (ds.map some ++ List.replicate (d.slots - ds.length) none) h).bind fun o => match o with
        | .nx _ h1 => back d.mode h.length .non h1
        | .rt r h1 => back d.mode h.length r h1
        | _ => none
      else none
    | none => none
end VI

/-! VI, part Q: plain laws of the interpreter. -/
namespace VI
theorem run_at {P : Pg} {n f : Nat} {d : DefI} {ds : List D} {h : Hh} (hd : P.defs[f]? = some d) (hl : ds.length = d.npar) : run P (n + 1) f ds h = (exs P (run P n) d.body (ds.map some ++ List.replicate (d.slots - ds.length) none) h).bind fun o => match o with
    | .nx _ h1 => back d.mode h.length .non h1
    | .rt r h1 => back d.mode h.length r h1
    | _ => none := by
  simp only [run, hd, hl, if_true]
  all_goals rfl
theorem run_ret {P : Pg} {n f : Nat} {d : DefI} {ds : List D} {h h1 : Hh} {r : D} (hd : P.defs[f]? = some d) (hl : ds.length = d.npar) (e : exs P (run P n) d.body (ds.map some ++ List.replicate (d.slots - ds.length) none) h = some (.rt r h1)) : run P (n + 1) f ds h = back d.mode h.length r h1 := by
  rw [run_at hd hl, e]; rfl
theorem run_end {P : Pg} {n f : Nat} {d : DefI} {ds : List D} {h h1 : Hh} {δ : Ev} (hd : P.defs[f]? = some d) (hl : ds.length = d.npar) (e : exs P (run P n) d.body (ds.map some ++ List.replicate (d.slots - ds.length) none) h = some (.nx δ h1)) : run P (n + 1) f ds h = back d.mode h.length .non h1 := by
  rw [run_at hd hl, e]; rfl
theorem exs_nx {P : Pg} {Φ : Fn} {s : S} {ss : SL} {δ δ1 : Ev} {h h1 : Hh} (e : ex P Φ s δ h = some (.nx δ1 h1)) : exs P Φ (.cons s ss) δ h = exs P Φ ss δ1 h1 := by
  simp only [exs, e, Option.bind_some]
theorem exs_rt {P : Pg} {Φ : Fn} {s : S} {ss : SL} {δ : Ev} {h h1 : Hh} {r : D} (e : ex P Φ s δ h = some (.rt r h1)) : exs P Φ (.cons s ss) δ h = some (.rt r h1) := by
  simp only [exs, e, Option.bind_some]
/-- no def's cell: as it is -/
def Cl (h : Hh) : Prop := h.all (Ob.low h.length) = true
theorem cut_self {h : Hh} (c : Cl h) : cutH h.length h = some h := by
  unfold cutH
  rw [List.take_length, show h.all (Ob.low h.length) = true from c]
  simp
theorem cut_app {h t : Hh} (c : Cl h) : cutH h.length (h ++ t) = some h := by
  unfold cutH
  rw [List.take_left, show h.all (Ob.low h.length) = true from c]
  simp
theorem lows_ints (n : Nat) : ∀ ns : List Int, D.lows n (ns.map D.int) = true
  | [] => rfl
  | i :: ns => by simp [D.lows, D.low, lows_ints n ns]
theorem intsOf_map : ∀ ns : List Int, intsOf (ns.map D.int) = some ns
  | [] => rfl
  | i :: ns => by simp [intsOf, intsOf_map ns]
section
variable {h : Hh} {i j : Int}
theorem o_add : op2 h .add (.int i) (.int j) = some (.int (i + j)) := rfl
theorem o_sub : op2 h .sub (.int i) (.int j) = some (.int (i - j)) := rfl
theorem o_lt : op2 h .lt (.int i) (.int j) = some (.bl (decide (i < j))) := rfl
theorem o_le : op2 h .le (.int i) (.int j) = some (.bl (decide (i ≤ j))) := rfl
theorem o_gt : op2 h .gt (.int i) (.int j) = some (.bl (decide (j < i))) := rfl
theorem o_ge : op2 h .ge (.int i) (.int j) = some (.bl (decide (j ≤ i))) := rfl
theorem o_eq : op2 h .eq (.int i) (.int j) = some (.bl (i == j)) := rfl
theorem o_ne : op2 h .ne (.int i) (.int j) = some (.bl (!(i == j))) := rfl
theorem o_isn {x : D} : op2 h .isn x .non = some (.bl (match x with | .non => true | _ => false)) := by cases x <;> rfl
theorem o_notn {x : D} : op2 h .notn x .non = some (.bl (match x with | .non => false | _ => true)) := by cases x <;> rfl
theorem o_mod (hj : 0 < j) : op2 h .mod (.int i) (.int j) = some (.int (i % j)) := if_pos hj
theorem o_fdiv (hj : 0 < j) (hj2 : j < 1073741824) : op2 h .fdiv (.int i) (.int j) = some (.int (i / j)) := if_pos ⟨hj, hj2⟩
theorem o_mulL (hi : small i = true) : op2 h .mul (.int i) (.int j) = some (.int (i * j)) := if_pos (by rw [hi]; rfl)
theorem o_mulR (hi : small j = true) : op2 h .mul (.int i) (.int j) = some (.int (i * j)) := if_pos (by rw [hi, Bool.or_true])
theorem o_pow (h0 : 0 ≤ j) (h1 : j ≤ 1000) (h2 : i.natAbs < 2 ^ 250) : op2 h .pow (.int i) (.int j) = some (.int (i ^ j.toNat)) := if_pos ⟨h0, h1, Nat.lt_of_lt_of_le h2 (Nat.pow_le_pow_right (by decide) (by decide))⟩
theorem o_addL {a b : List D} (hl : a.length + b.length ≤ lim) : op2 h .add (.lst a) (.lst b) = some (.lst (a ++ b)) := if_pos hl
theorem o_addS {a b : List Nat} (hl : a.length + b.length ≤ lim) : op2 h .add (.str a) (.str b) = some (.str (a ++ b)) := if_pos hl
end
theorem lim_big {n : Nat} (h : n ≤ 1000) : n < lim := Nat.lt_of_le_of_lt h (by unfold lim; exact of_decide_eq_true rfl)
theorem small_of {i : Int} (h1 : -(2 ^ 63) ≤ i) (h2 : i ≤ 2 ^ 63) : small i = true := Nat.blt_eq.mpr (by omega)
/-! ### one step after the other -/
section
variable {P : Pg} {Φ : Fn} {δ δ1 : Ev} {h h1 h2 h3 : Hh} {a b c : E} {es ks : EL} {x y z d : D} {xs ys : List D} {f : Nat}
theorem e_var {i : Nat} (e : look δ i = some d) : ev P Φ (.var i) δ h = some (d, h) := by simp only [ev, e, Option.map_some]
theorem e_glo {g : Nat} (e : P.consts[g]? = some d) : ev P Φ (.glo g) δ h = some (d, h) := by simp only [ev, e, Option.map_some]
theorem e_bin {o : Op} (ha : ev P Φ a δ h = some (x, h1)) (hb : ev P Φ b δ h1 = some (y, h2)) (e : op2 h2 o x y = some d) : ev P Φ (.bin o a b) δ h = some (d, h2) := by simp only [ev, ha, hb, e, Option.bind_some, Option.map_some]
theorem e_cmp {o : Op} (ha : ev P Φ a δ h = some (x, h1)) (hb : ev P Φ b δ h1 = some (y, h2)) (e : op2 h2 o x y = some d) : ev P Φ (.cmp o a b) δ h = some (d, h2) := by simp only [ev, ha, hb, e, Option.bind_some, Option.map_some]
theorem e_chT {o o' : Op} (ha : ev P Φ a δ h = some (x, h1)) (hb : ev P Φ b δ h1 = some (y, h2)) (e : op2 h2 o x y = some (.bl true)) (hc : ev P Φ c δ h2 = some (z, h3)) (e2 : op2 h3 o' y z = some d) : ev P Φ (.chain o o' a b c) δ h = some (d, h3) := by simp only [ev, ha, hb, hc, e, e2, Option.bind_some, Option.map_some]
theorem e_not {q : Bool} (ha : ev P Φ a δ h = some (.bl q, h1)) : ev P Φ (.notV a) δ h = some (.bl !q, h1) := by simp only [ev, ha, Option.bind_some]
theorem e_orT (ha : ev P Φ a δ h = some (.bl true, h1)) : ev P Φ (.orV a b) δ h = some (.bl true, h1) := by simp only [ev, ha, Option.bind_some]
theorem e_orF (ha : ev P Φ a δ h = some (.bl false, h1)) : ev P Φ (.orV a b) δ h = ev P Φ b δ h1 := by simp only [ev, ha, Option.bind_some]
theorem e_andT (ha : ev P Φ a δ h = some (.bl true, h1)) : ev P Φ (.andV a b) δ h = ev P Φ b δ h1 := by simp only [ev, ha, Option.bind_some]
theorem e_andF (ha : ev P Φ a δ h = some (.bl false, h1)) : ev P Φ (.andV a b) δ h = some (.bl false, h1) := by simp only [ev, ha, Option.bind_some]
theorem e_iteT (ha : ev P Φ a δ h = some (.bl true, h1)) : ev P Φ (.ite a b c) δ h = ev P Φ b δ h1 := by simp only [ev, ha, Option.bind_some]
theorem e_iteF (ha : ev P Φ a δ h = some (.bl false, h1)) : ev P Φ (.ite a b c) δ h = ev P Φ c δ h1 := by simp only [ev, ha, Option.bind_some]
theorem es_nil : evs P Φ .nil δ h = some ([], h) := rfl
theorem es_cons (ha : ev P Φ a δ h = some (x, h1)) (hs : evs P Φ es δ h1 = some (xs, h2)) : evs P Φ (.cons a es) δ h = some (x :: xs, h2) := by simp only [evs, ha, hs, Option.bind_some, Option.map_some]
theorem e_lst (hs : evs P Φ es δ h = some (xs, h1)) : ev P Φ (.lst es) δ h = some (.lst xs, h1) := by simp only [ev, hs, Option.map_some]
theorem e_tup (hs : evs P Φ es δ h = some (xs, h1)) : ev P Φ (.tup es) δ h = some (.tup xs, h1) := by simp only [ev, hs, Option.map_some]
theorem e_mlst (hs : evs P Φ es δ h = some (xs, h1)) : ev P Φ (.mlst es) δ h = some (.ref h1.length, h1 ++ [.lst xs]) := by simp only [ev, hs, Option.map_some]
theorem e_bi {o : Bi} (hs : evs P Φ es δ h = some (xs, h1)) (e : biF h1 o xs = some d) : ev P Φ (.bi o es) δ h = some (d, h1) := by simp only [ev, hs, e, Option.bind_some, Option.map_some]
theorem e_call (hs : evs P Φ es δ h = some (xs, h1)) (e : Φ f xs h1 = some (d, h2)) : ev P Φ (.call f es) δ h = some (d, h2) := by simp only [ev, hs, e, Option.bind_some]
theorem e_stat (hs : evs P Φ es δ h = some (xs, h1)) (e : Φ f xs h1 = some (d, h2)) : ev P Φ (.stat f es) δ h = some (d, h2) := by simp only [ev, hs, e, Option.bind_some]
theorem e_statK {perm : List Nat} (hs : evs P Φ ks δ h = some (xs, h1)) (e : Φ f (permL perm [] xs) h1 = some (d, h2)) : ev P Φ (.statK f ks perm) δ h = some (d, h2) := by simp only [ev, hs, e, Option.bind_some]
theorem e_idx (ha : ev P Φ a δ h = some (x, h1)) (hb : ev P Φ b δ h1 = some (y, h2)) (e : idxF h2 x y = some d) : ev P Φ (.idx a b) δ h = some (d, h2) := by simp only [ev, ha, hb, e, Option.bind_some, Option.map_some]
theorem e_meth {l cc : Nat} {fs : List (Nat × D)} {df : DefI} (ha : ev P Φ a δ h = some (x, h1)) (hi : insAt h1 x = some (l, cc, fs)) (hs : evs P Φ es δ h1 = some (xs, h2)) (hd : P.defs[f]? = some df) (hc : df.cls = some cc) (e : Φ f (x :: xs) h2 = some (d, h3)) : ev P Φ (.meth f a es) δ h = some (d, h3) := by
  simp only [ev, ha, hi, hs, hd, hc, e, Option.bind_some, if_true]
theorem e_prop {l cc : Nat} {fs : List (Nat × D)} {df : DefI} (ha : ev P Φ a δ h = some (x, h1)) (hi : insAt h1 x = some (l, cc, fs)) (hd : P.defs[f]? = some df) (hc : df.cls = some cc) (e : Φ f [x] h1 = some (d, h2)) : ev P Φ (.prop f a) δ h = some (d, h2) := by
  simp only [ev, ha, hi, hd, hc, e, Option.bind_some, if_true]
theorem e_fld {l cc g : Nat} {fs : List (Nat × D)} (ha : ev P Φ a δ h = some (x, h1)) (hi : insAt h1 x = some (l, cc, fs)) (e : fget fs g = some d) : ev P Φ (.fld cc a g) δ h = some (d, h1) := by
  simp only [ev, ha, hi, e, Option.bind_some, Option.map_some, if_true]
theorem e_app {l : Nat} (ha : ev P Φ a δ h = some (.ref l, h1)) (hb : ev P Φ b δ h1 = some (y, h2)) (e1 : h1[l]? = some (.lst ys)) (e2 : h2[l]? = some (.lst xs)) (hl : xs.length < lim) : ev P Φ (.app a b) δ h = some (.non, h2.set l (.lst (xs ++ [y]))) := by
  simp only [ev, ha, hb, e1, e2, hl, Option.bind_some, if_true]
theorem x_asg {tg : Tg} (ha : ev P Φ a δ h = some (x, h1)) (e : put tg x δ = some δ1) : ex P Φ (.asg tg a) δ h = some (.nx δ1 h1) := by simp only [ex, ha, e, Option.bind_some, Option.map_some]
theorem x_expr (ha : ev P Φ a δ h = some (x, h1)) : ex P Φ (.expr a) δ h = some (.nx δ h1) := by simp only [ex, ha, Option.map_some]
theorem x_ret (ha : ev P Φ a δ h = some (x, h1)) : ex P Φ (.ret a) δ h = some (.rt x h1) := by simp only [ex, ha, Option.map_some]
theorem x_iteT {s t : SL} (ha : ev P Φ a δ h = some (.bl true, h1)) : ex P Φ (.ite a s t) δ h = exs P Φ s δ h1 := by simp only [ex, ha, Option.bind_some]
theorem x_iteF {s t : SL} (ha : ev P Φ a δ h = some (.bl false, h1)) : ex P Φ (.ite a s t) δ h = exs P Φ t δ h1 := by simp only [ex, ha, Option.bind_some]
theorem x_par {i j : Nat} (ha : ev P Φ a δ h = some (x, h1)) (hb : ev P Φ b δ h1 = some (y, h2)) : ex P Φ (.par i j a b) δ h = some (.nx ((δ.set i (some x)).set j (some y)) h2) := by simp only [ex, ha, hb, Option.bind_some, Option.map_some]
theorem x_for {tg : Tg} {it : It} {s : SL} {o : Out} (hi : evI P Φ it δ h = some (xs, h1)) (e : forLoop tg (exs P Φ s) xs δ h1 = some o) : ex P Φ (.for tg it s) δ h = some o := by simp only [ex, hi, e, Option.bind_some]
theorem x_asgF {l cc g : Nat} {fs : List (Nat × D)} (ha : ev P Φ a δ h = some (x, h1)) (hb : ev P Φ b δ h1 = some (y, h2)) (hi : insAt h2 y = some (l, cc, fs)) (hl : fs.length < 900) : ex P Φ (.asgF cc b g a) δ h = some (.nx δ (h2.set l (.ins cc (fput fs g x)))) := by
  simp only [ex, ha, hb, hi, hl, Option.bind_some, and_self, if_true]
theorem x_asgIL {l : Nat} {k : Int} (ha : ev P Φ a δ h = some (x, h1)) (hb : ev P Φ b δ h1 = some (.ref l, h2)) (hc : ev P Φ c δ h2 = some (.int k, h3)) (e : h3[l]? = some (.lst xs)) (hk : 0 ≤ k ∧ k.toNat < xs.length) : ex P Φ (.asgI b c a) δ h = some (.nx δ (h3.set l (.lst (xs.set k.toNat x)))) := by
  simp only [ex, ha, hb, hc, e, hk, Option.bind_some, and_self, if_true]
theorem i_rng1 {n : Int} (ha : ev P Φ a δ h = some (.int n, h1)) (hw : within n = true) : evI P Φ (.range1 a) δ h = some (rangeL 0 n, h1) := by simp only [evI, ha, hw, Option.bind_some, if_true]
theorem i_rng2 {m n : Int} (ha : ev P Φ a δ h = some (.int m, h1)) (hb : ev P Φ b δ h1 = some (.int n, h2)) (hw : (within m && within n) = true) : evI P Φ (.range2 a b) δ h = some (rangeL m n, h2) := by simp only [evI, ha, hb, hw, Option.bind_some, if_true]
theorem e_lc {tg : Tg} {own : List Nat} {it : It} (hi : evI P Φ it δ h = some (xs, h1)) (hl : xs.length < lim) (e : lcLoop tg (ev P Φ b) (ev P Φ c) (wipeE δ own) xs h1 = some (ys, h2)) : ev P Φ (.lc tg own it b c) δ h = some (.lst ys, h2) := by
  simp only [ev, hi, hl, e, Option.bind_some, Option.map_some, if_true]
end
/-- a comprehension each of whose turns leaves the heap -/
theorem lc_map {tg : Tg} {c e : Ev → Hh → Option (D × Hh)} {δ : Ev} {h : Hh} {g : D → D} : ∀ {xs : List D}, (∀ x ∈ xs, ∃ δ1, put tg x δ = some δ1 ∧ c δ1 h = some (.bl true, h) ∧ e δ1 h = some (g x, h)) → lcLoop tg c e δ xs h = some (xs.map g, h)
  | [], _ => rfl
  | x :: xs, H => by
    obtain ⟨δ1, h1, h2, h3⟩ := H x List.mem_cons_self
    have ih := lc_map (tg := tg) (c := c) (e := e) (δ := δ) (h := h) (g := g) (xs := xs) fun y hy => H y (List.mem_cons_of_mem _ hy)
    simp [lcLoop, h1, h2, h3, ih]
end VI

/-! VI, part S: the interpreter's equations, one a construct, for simp: none of loops and comprehensions. -/
namespace VI
section
variable {P : Pg} {Φ : Fn} {δ : Ev} {h : Hh} {a b c d : E} {es ks : EL}
theorem E_var {i : Nat} : ev P Φ (.var i) δ h = (look δ i).map fun d => (d, h) := by first | (simp only [ev]; done) | (simp only [ev]; rfl)
theorem E_cst {x : D} : ev P Φ (.cst x) δ h = some (x, h) := by first | (simp only [ev]; done) | (simp only [ev]; rfl)
theorem E_glo {g : Nat} : ev P Φ (.glo g) δ h = (P.consts[g]?).map fun d => (d, h) := by first | (simp only [ev]; done) | (simp only [ev]; rfl)
theorem E_bin {o : Op} : ev P Φ (.bin o a b) δ h = (ev P Φ a δ h).bind fun p => (ev P Φ b δ p.2).bind fun q => (op2 q.2 o p.1 q.1).map fun d => (d, q.2) := by first | (simp only [ev]; done) | (simp only [ev]; rfl)
theorem E_cmp {o : Op} : ev P Φ (.cmp o a b) δ h = (ev P Φ a δ h).bind fun p => (ev P Φ b δ p.2).bind fun q => (op2 q.2 o p.1 q.1).map fun d => (d, q.2) := by first | (simp only [ev]; done) | (simp only [ev]; rfl)
def chF (t : Option (D × Hh)) (f : Option (D × Hh)) (d : D) : Option (D × Hh) := match d with
  | .bl true => t
  | .bl false => f
  | _ => none
theorem chF_t {t f : Option (D × Hh)} : chF t f (.bl true) = t := rfl
theorem chF_f {t f : Option (D × Hh)} : chF t f (.bl false) = f := rfl
theorem chF_dec {t f : Option (D × Hh)} {p : Prop} [Decidable p] : chF t f (.bl (decide p)) = if p then t else f := by
  by_cases q : p
  · rw [decide_eq_true q, if_pos q]; rfl
  · rw [decide_eq_false q, if_neg q]; rfl
theorem chF_ndec {t f : Option (D × Hh)} {p : Prop} [Decidable p] : chF t f (.bl (!decide p)) = if p then f else t := by
  by_cases q : p
  · rw [decide_eq_true q, if_pos q]; rfl
  · rw [decide_eq_false q, if_neg q]; rfl
theorem E_chain {o o' : Op} : ev P Φ (.chain o o' a b c) δ h = (ev P Φ a δ h).bind fun p => (ev P Φ b δ p.2).bind fun q => (op2 q.2 o p.1 q.1).bind fun d => chF ((ev P Φ c δ q.2).bind fun r => (op2 r.2 o' q.1 r.1).map fun d => (d, r.2)) (some (.bl false, q.2)) d := by first | (simp only [ev, chF]; done) | (simp only [ev, chF]; rfl)
theorem E_neg : ev P Φ (.neg a) δ h = (ev P Φ a δ h).bind fun p => match p.1 with
    | .int i => some (.int (-i), p.2)
    | _ => none := by first | (simp only [ev]; done) | (simp only [ev]; rfl)
theorem E_and : ev P Φ (.andV a b) δ h = (ev P Φ a δ h).bind fun p => chF (ev P Φ b δ p.2) (some (.bl false, p.2)) p.1 := by first | (simp only [ev, chF]; done) | (simp only [ev, chF]; rfl)
theorem E_or : ev P Φ (.orV a b) δ h = (ev P Φ a δ h).bind fun p => chF (some (.bl true, p.2)) (ev P Φ b δ p.2) p.1 := by
  simp only [ev]
  congr 1
  funext p
  obtain ⟨x, g⟩ := p
  cases x <;> try rfl
  rename_i q
  cases q <;> rfl
theorem E_not : ev P Φ (.notV a) δ h = (ev P Φ a δ h).bind fun p => match p.1 with
    | .bl b => some (.bl !b, p.2)
    | _ => none := by first | (simp only [ev]; done) | (simp only [ev]; rfl)
theorem E_ite : ev P Φ (.ite a b c) δ h = (ev P Φ a δ h).bind fun p => chF (ev P Φ b δ p.2) (ev P Φ c δ p.2) p.1 := by first | (simp only [ev, chF]; done) | (simp only [ev, chF]; rfl)
theorem E_tup : ev P Φ (.tup es) δ h = (evs P Φ es δ h).map fun p => (.tup p.1, p.2) := by first | (simp only [ev]; done) | (simp only [ev]; rfl)
theorem E_lst : ev P Φ (.lst es) δ h = (evs P Φ es δ h).map fun p => (.lst p.1, p.2) := by first | (simp only [ev]; done) | (simp only [ev]; rfl)
theorem E_mlst : ev P Φ (.mlst es) δ h = (evs P Φ es δ h).map fun p => (.ref p.2.length, p.2 ++ [.lst p.1]) := by first | (simp only [ev]; done) | (simp only [ev]; rfl)
theorem E_mdct : ev P Φ .mdct δ h = some (.ref h.length, h ++ [.dct [] []]) := by first | (simp only [ev]; done) | (simp only [ev]; rfl)
theorem E_call {f : Nat} : ev P Φ (.call f es) δ h = (evs P Φ es δ h).bind fun p => Φ f p.1 p.2 := by first | (simp only [ev]; done) | (simp only [ev]; rfl)
theorem E_meth {f : Nat} : ev P Φ (.meth f a es) δ h = (ev P Φ a δ h).bind fun p => (insAt p.2 p.1).bind fun i => (evs P Φ es δ p.2).bind fun q => match P.defs[f]? with
    | some d => if d.cls = some i.2.1 then Φ f (p.1 :: q.1) q.2 else none
    | none => none := by first | (simp only [ev]; done) | (simp only [ev]; rfl)
theorem E_prop {f : Nat} : ev P Φ (.prop f a) δ h = (ev P Φ a δ h).bind fun p => (insAt p.2 p.1).bind fun i => match P.defs[f]? with
    | some d => if d.cls = some i.2.1 then Φ f [p.1] p.2 else none
    | none => none := by first | (simp only [ev]; done) | (simp only [ev]; rfl)
theorem E_has {n : Bool} {f : Nat} : ev P Φ (.has n f a b) δ h = (ev P Φ a δ h).bind fun q => (ev P Φ b δ q.2).bind fun p => (insAt p.2 p.1).bind fun i => match P.defs[f]? with
    | some d => if d.cls = some i.2.1 then (Φ f [p.1, q.1] p.2).bind fun r => match r.1 with
        | .bl b => some (.bl (if n then !b else b), r.2)
        | _ => none
      else none
    | none => none := by first | (simp only [ev]; done) | (simp only [ev]; rfl)
theorem E_fld {cc f : Nat} : ev P Φ (.fld cc a f) δ h = (ev P Φ a δ h).bind fun p => (insAt p.2 p.1).bind fun i => if i.2.1 = cc then (fget i.2.2 f).map fun d => (d, p.2) else none := by first | (simp only [ev]; done) | (simp only [ev]; rfl)
theorem E_bi {o : Bi} : ev P Φ (.bi o es) δ h = (evs P Φ es δ h).bind fun p => (biF p.2 o p.1).map fun d => (d, p.2) := by first | (simp only [ev]; done) | (simp only [ev]; rfl)
theorem E_isi {t : Ty} : ev P Φ (.isi a t) δ h = (ev P Φ a δ h).bind fun p => (isiF p.2 t p.1).map fun b => (.bl b, p.2) := by first | (simp only [ev]; done) | (simp only [ev]; rfl)
theorem E_idx : ev P Φ (.idx a b) δ h = (ev P Φ a δ h).bind fun p => (ev P Φ b δ p.2).bind fun q => (idxF q.2 p.1 q.1).map fun d => (d, q.2) := by first | (simp only [ev]; done) | (simp only [ev]; rfl)
theorem E_sl : ev P Φ (.sl a b c) δ h = (ev P Φ a δ h).bind fun p => (ev P Φ b δ p.2).bind fun q => (ev P Φ c δ q.2).bind fun r => match q.1, r.1 with
    | .int i, .int j => (slF r.2 p.1 (some i) (some j)).map fun d => (d, r.2)
    | _, _ => none := by first | (simp only [ev]; done) | (simp only [ev]; rfl)
theorem E_slT : ev P Φ (.slT a b) δ h = (ev P Φ a δ h).bind fun p => (ev P Φ b δ p.2).bind fun q => match q.1 with
    | .int i => (slF q.2 p.1 (some i) none).map fun d => (d, q.2)
    | _ => none := by first | (simp only [ev]; done) | (simp only [ev]; rfl)
theorem E_slH : ev P Φ (.slH a b) δ h = (ev P Φ a δ h).bind fun p => (ev P Φ b δ p.2).bind fun q => match q.1 with
    | .int i => (slF q.2 p.1 none (some i)).map fun d => (d, q.2)
    | _ => none := by first | (simp only [ev]; done) | (simp only [ev]; rfl)
theorem E_stat {f : Nat} : ev P Φ (.stat f es) δ h = (evs P Φ es δ h).bind fun p => Φ f p.1 p.2 := by first | (simp only [ev]; done) | (simp only [ev]; rfl)
theorem E_statK {f : Nat} {perm : List Nat} : ev P Φ (.statK f ks perm) δ h = (evs P Φ ks δ h).bind fun p => Φ f (permL perm [] p.1) p.2 := by first | (simp only [ev]; done) | (simp only [ev]; rfl)
theorem E_dz : ev P Φ (.dz a b) δ h = (ev P Φ a δ h).bind fun p => (ev P Φ b δ p.2).bind fun q => match p.1, q.1 with
    | .str s, .tup xs => some (.ref q.2.length, q.2 ++ [.dct (zipPut s xs [] []).1 (zipPut s xs [] []).2])
    | _, _ => none := by first | (simp only [ev]; done) | (simp only [ev]; rfl)
theorem E_make {f : Nat} : ev P Φ (.make f es) δ h = (evs P Φ es δ h).bind fun p => match P.defs[f]? with
    | some d => (match d.cls with
      | some c => (Φ f (.ref p.2.length :: p.1) (p.2 ++ [.ins c []])).bind fun q => match q.1 with
        | .non => some (.ref p.2.length, q.2)
        | _ => none
      | none => none)
    | none => none := by first | (simp only [ev]; done) | (simp only [ev]; rfl)
theorem E_makeK {f : Nat} {perm : List Nat} : ev P Φ (.makeK f es ks perm) δ h = (evs P Φ es δ h).bind fun p => (evs P Φ ks δ p.2).bind fun p2 => match P.defs[f]? with
    | some d => (match d.cls with
      | some c => (Φ f (permL perm (.ref p2.2.length :: p.1) p2.1) (p2.2 ++ [.ins c []])).bind fun q => match q.1 with
        | .non => some (.ref p2.2.length, q.2)
        | _ => none
      | none => none)
    | none => none := by first | (simp only [ev]; done) | (simp only [ev]; rfl)
theorem E_dsp : ev P Φ (.dsp es) δ h = (evs P Φ es δ h).bind fun p => (pairUp p.1).bind fun ps => if ps.all (fun q => isKey q.1) then some (.ref p.2.length, p.2 ++ [.dct (dspPut ps [] []).1 (dspPut ps [] []).2]) else none := by first | (simp only [ev]; done) | (simp only [ev]; rfl)
theorem E_inR {n : Bool} : ev P Φ (.inR n a b c) δ h = (ev P Φ a δ h).bind fun p => (ev P Φ b δ p.2).bind fun q => (ev P Φ c δ q.2).bind fun r => match q.1, r.1 with
    | .int lo, .int hi => if within lo && within hi then (match p.1 with
      | .int i => some (.bl (if n then !decide (lo ≤ i ∧ i < hi) else decide (lo ≤ i ∧ i < hi)), r.2)
      | .non => some (.bl n, r.2)
      | _ => none) else none
    | _, _ => none := by first | (simp only [ev]; done) | (simp only [ev]; rfl)
theorem E_join : ev P Φ (.join a b) δ h = (ev P Φ a δ h).bind fun p => (ev P Φ b δ p.2).bind fun q => match p.1 with
    | .str s => ((ltOf q.2 q.1).bind textsOf).bind fun ts => if s.length ≤ 100 ∧ ts.length ≤ 1000 ∧ (ts.map List.length).sum ≤ lim then some (.str (joinL s ts), q.2) else none
    | _ => none := by first | (simp only [ev]; done) | (simp only [ev]; rfl)
theorem E_upd : ev P Φ (.upd a b) δ h = (ev P Φ a δ h).bind fun p => (ev P Φ b δ p.2).bind fun q => match p.1, q.1 with
    | .ref l, .dct ks vs => (match p.2[l]?, q.2[l]? with
      | some (.dct _ _), some (.dct ks0 vs0) => if ks0.length + ks.length < lim then some (.non, q.2.set l (.dct (dspPut (ks.zip vs) ks0 vs0).1 (dspPut (ks.zip vs) ks0 vs0).2)) else none
      | _, _ => none)
    | _, _ => none := by first | (simp only [ev]; done) | (simp only [ev]; rfl)
theorem E_app : ev P Φ (.app a b) δ h = (ev P Φ a δ h).bind fun p => (ev P Φ b δ p.2).bind fun q => match p.1 with
    | .ref l => (match p.2[l]?, q.2[l]? with
      | some (.lst _), some (.lst xs) => if xs.length < lim then some (.non, q.2.set l (.lst (xs ++ [q.1]))) else none
      | _, _ => none)
    | _ => none := by first | (simp only [ev]; done) | (simp only [ev]; rfl)
theorem E_callG {f : Nat} : ev P Φ (.callG f es) δ h = (evs P Φ es δ h).bind fun p => Φ f p.1 p.2 := by first | (simp only [ev]; done) | (simp only [ev]; rfl)
theorem E_methK {f : Nat} {perm : List Nat} : ev P Φ (.methK f a ks perm) δ h = (ev P Φ a δ h).bind fun p => (insAt p.2 p.1).bind fun i => (evs P Φ ks δ p.2).bind fun q => match P.defs[f]? with
    | some d => if d.cls = some i.2.1 then Φ f (permL perm [p.1] q.1) q.2 else none
    | none => none := by first | (simp only [ev]; done) | (simp only [ev]; rfl)
theorem E_popA : ev P Φ (.popA a b) δ h = (ev P Φ a δ h).bind fun p => (ev P Φ b δ p.2).bind fun q => match p.1, q.1 with
    | .ref l, .int k => (match p.2[l]?, q.2[l]? with
      | some (.lst _), some (.lst xs) => if 0 ≤ k ∧ within k = true then (xs[k.toNat]?).map fun y => (y, q.2.set l (.lst (xs.eraseIdx k.toNat))) else none
      | _, _ => none)
    | _, _ => none := by first | (simp only [ev]; done) | (simp only [ev]; rfl)
theorem E_popL : ev P Φ (.popL a) δ h = (ev P Φ a δ h).bind fun p => match p.1 with
    | .ref l => (match p.2[l]? with
      | some (.lst xs) => (xs[xs.length - 1]?).map fun y => (y, p.2.set l (.lst xs.dropLast))
      | _ => none)
    | _ => none := by first | (simp only [ev]; done) | (simp only [ev]; rfl)
theorem E_ext : ev P Φ (.ext a b) δ h = (ev P Φ a δ h).bind fun p => (ev P Φ b δ p.2).bind fun q => match p.1, q.1 with
    | .ref l, .lst zs => (match p.2[l]?, q.2[l]? with
      | some (.lst _), some (.lst xs) => if xs.length + zs.length < lim then some (.non, q.2.set l (.lst (xs ++ zs))) else none
      | _, _ => none)
    | _, _ => none := by first | (simp only [ev]; done) | (simp only [ev]; rfl)
theorem E_mslH : ev P Φ (.mslH a b) δ h = (ev P Φ a δ h).bind fun p => (ev P Φ b δ p.2).bind fun q => match q.1 with
    | .int i => (lstOf q.2 p.1).map fun xs => (.ref q.2.length, q.2 ++ [.lst (cutL xs 0 (cutI xs.length i))])
    | _ => none := by first | (simp only [ev]; done) | (simp only [ev]; rfl)
theorem E_dpr : ev P Φ (.dpr a) δ h = (ev P Φ a δ h).bind fun p => match p.1 with
    | .lst ds => (pairsOf ds).map fun ps => (.ref p.2.length, p.2 ++ [.dct (dspPut ps [] []).1 (dspPut ps [] []).2])
    | _ => none := by first | (simp only [ev]; done) | (simp only [ev]; rfl)
theorem E_eqR {n : Bool} : ev P Φ (.eqR n a b) δ h = (ev P Φ a δ h).bind fun p => (ev P Φ b δ p.2).bind fun q => if repOk (drf p.2 p.1) && same (drf p.2 p.1) (drf q.2 q.1) then some (.bl !n, q.2) else none := by first | (simp only [ev]; done) | (simp only [ev]; rfl)
theorem E_emp {n : Bool} : ev P Φ (.emp n a) δ h = (ev P Φ a δ h).bind fun p => match drf p.2 p.1 with
    | .lst xs => if D.plains 50 xs then some (.bl (if n then !xs.isEmpty else xs.isEmpty), p.2) else none
    | _ => none := by first | (simp only [ev]; done) | (simp only [ev]; rfl)
theorem E_rev : ev P Φ (.rev a) δ h = (ev P Φ a δ h).bind fun p => (lstOf p.2 p.1).map fun xs => (.lst xs.reverse, p.2) := by first | (simp only [ev]; done) | (simp only [ev]; rfl)
theorem Es_nil : evs P Φ .nil δ h = some ([], h) := by first | (simp only [evs]; done) | (simp only [evs]; rfl)
theorem Es_cons : evs P Φ (.cons a es) δ h = (ev P Φ a δ h).bind fun p => (evs P Φ es δ p.2).map fun q => (p.1 :: q.1, q.2) := by first | (simp only [evs]; done) | (simp only [evs]; rfl)
theorem I_seq : evI P Φ (.seq a) δ h = (ev P Φ a δ h).bind fun p => (seqOf p.2 p.1).map fun xs => (xs, p.2) := by first | (simp only [evI]; done) | (simp only [evI]; rfl)
theorem I_rng1 : evI P Φ (.range1 a) δ h = (ev P Φ a δ h).bind fun p => match p.1 with
    | .int n => if within n then some (rangeL 0 n, p.2) else none
    | _ => none := by first | (simp only [evI]; done) | (simp only [evI]; rfl)
theorem I_rng2 : evI P Φ (.range2 a b) δ h = (ev P Φ a δ h).bind fun p => (ev P Φ b δ p.2).bind fun q => match p.1, q.1 with
    | .int m, .int n => if within m && within n then some (rangeL m n, q.2) else none
    | _, _ => none := by first | (simp only [evI]; done) | (simp only [evI]; rfl)
theorem I_down : evI P Φ (.down a b) δ h = (ev P Φ a δ h).bind fun p => (ev P Φ b δ p.2).bind fun q => match p.1, q.1 with
    | .int m, .int n => if within m && within n then some (rangeD m n, q.2) else none
    | _, _ => none := by first | (simp only [evI]; done) | (simp only [evI]; rfl)
theorem I_enum : evI P Φ (.enum a) δ h = (ev P Φ a δ h).bind fun p => (seqOf p.2 p.1).map fun xs => (enumL 0 xs, p.2) := by first | (simp only [evI]; done) | (simp only [evI]; rfl)
theorem I_zip : evI P Φ (.zip a b) δ h = (ev P Φ a δ h).bind fun p => (ev P Φ b δ p.2).bind fun q => (seqOf q.2 p.1).bind fun xs => (seqOf q.2 q.1).map fun ys => (zipL xs ys, q.2) := by first | (simp only [evI]; done) | (simp only [evI]; rfl)
def chO (t f : Option Out) (d : D) : Option Out := match d with
  | .bl true => t
  | .bl false => f
  | _ => none
theorem chO_t {t f : Option Out} : chO t f (.bl true) = t := rfl
theorem chO_f {t f : Option Out} : chO t f (.bl false) = f := rfl
theorem X_asg {tg : Tg} : ex P Φ (.asg tg a) δ h = (ev P Φ a δ h).bind fun p => (put tg p.1 δ).map fun δ1 => .nx δ1 p.2 := by first | (simp only [ex]; done) | (simp only [ex]; rfl)
theorem X_asgF {cc f : Nat} : ex P Φ (.asgF cc b f a) δ h = (ev P Φ a δ h).bind fun p => (ev P Φ b δ p.2).bind fun q => (insAt q.2 q.1).bind fun i => if i.2.1 = cc ∧ i.2.2.length < 900 then some (.nx δ (q.2.set i.1 (.ins i.2.1 (fput i.2.2 f p.1)))) else none := by first | (simp only [ex]; done) | (simp only [ex]; rfl)
theorem X_asgI : ex P Φ (.asgI b c a) δ h = (ev P Φ a δ h).bind fun p => (ev P Φ b δ p.2).bind fun q => (ev P Φ c δ q.2).bind fun r => (setF r.2 q.1 r.1 p.1).map fun g => .nx δ g := by
  simp only [ex]
  congr 1; funext p
  congr 1; funext q
  congr 1; funext r
  obtain ⟨q1, q2⟩ := q
  obtain ⟨r1, r2⟩ := r
  simp only [setF]
  cases q1 <;> try rfl
  rename_i l
  cases hh : r2[l]? with
  | none => simp only [hh]; rfl
  | some ob => cases ob with
    | lst xs =>
      simp only [hh]
      cases r1 <;> first | rfl | (simp only []; split <;> rfl)
    | dct ks vs => simp only [hh]; split <;> rfl
    | ins _ _ => simp only [hh]; rfl
theorem X_augF {cc f : Nat} {o : Op} : ex P Φ (.augF cc a f o b) δ h = (ev P Φ a δ h).bind fun p => (insAt p.2 p.1).bind fun i => (fget i.2.2 f).bind fun d => (ev P Φ b δ p.2).bind fun q => (insAt q.2 p.1).bind fun j => match d, q.1 with
    | .int _, .int _ => if i.2.1 = cc ∧ j.2.1 = cc ∧ j.2.2.length < 900 then (op2 q.2 o d q.1).map fun r => .nx δ (q.2.set j.1 (.ins j.2.1 (fput j.2.2 f r))) else none
    | _, _ => none := by first | (simp only [ex]; done) | (simp only [ex]; rfl)
theorem X_par {i j : Nat} : ex P Φ (.par i j a b) δ h = (ev P Φ a δ h).bind fun p => (ev P Φ b δ p.2).map fun q => .nx ((δ.set i (some p.1)).set j (some q.1)) q.2 := by first | (simp only [ex]; done) | (simp only [ex]; rfl)
theorem X_asgT {ts : List TX} : ex P Φ (.asgT ts es) δ h = (evs P Φ es δ h).bind fun p => (putsX P Φ ts p.1 δ p.2).map fun q => .nx q.1 q.2 := by first | (simp only [ex]; done) | (simp only [ex]; rfl)
theorem X_aug {i : Nat} {o : Op} : ex P Φ (.aug i o a) δ h = (look δ i).bind fun d => (ev P Φ a δ h).bind fun p => match d, p.1 with
    | .int _, .int _ => (op2 p.2 o d p.1).map fun r => .nx (δ.set i (some r)) p.2
    | _, _ => none := by first | (simp only [ex]; done) | (simp only [ex]; rfl)
theorem X_expr : ex P Φ (.expr a) δ h = (ev P Φ a δ h).map fun p => .nx δ p.2 := by first | (simp only [ex]; done) | (simp only [ex]; rfl)
theorem X_ret : ex P Φ (.ret a) δ h = (ev P Φ a δ h).map fun p => .rt p.1 p.2 := by first | (simp only [ex]; done) | (simp only [ex]; rfl)
theorem X_retN : ex P Φ .retN δ h = some (.rt .non h) := by first | (simp only [ex]; done) | (simp only [ex]; rfl)
theorem X_ite {s t : SL} : ex P Φ (.ite a s t) δ h = (ev P Φ a δ h).bind fun p => chO (exs P Φ s δ p.2) (exs P Φ t δ p.2) p.1 := by first | (simp only [ex, chO]; done) | (simp only [ex, chO]; rfl)
theorem X_pass : ex P Φ .pass δ h = some (.nx δ h) := by first | (simp only [ex]; done) | (simp only [ex]; rfl)
theorem X_brk : ex P Φ .brk δ h = some (.bk δ h) := by first | (simp only [ex]; done) | (simp only [ex]; rfl)
theorem X_cont : ex P Φ .cont δ h = some (.ct δ h) := by first | (simp only [ex]; done) | (simp only [ex]; rfl)
def thnO (f : Ev → Hh → Option Out) (o : Out) : Option Out := match o with
  | .nx δ h => f δ h
  | o => some o
theorem thnO_nx {f : Ev → Hh → Option Out} {δ : Ev} {h : Hh} : thnO f (.nx δ h) = f δ h := rfl
theorem thnO_rt {f : Ev → Hh → Option Out} {d : D} {h : Hh} : thnO f (.rt d h) = some (.rt d h) := rfl
theorem thnO_bk {f : Ev → Hh → Option Out} {δ : Ev} {h : Hh} : thnO f (.bk δ h) = some (.bk δ h) := rfl
theorem thnO_ct {f : Ev → Hh → Option Out} {δ : Ev} {h : Hh} : thnO f (.ct δ h) = some (.ct δ h) := rfl
theorem Xs_nil : exs P Φ .nil δ h = some (.nx δ h) := by first | (simp only [exs]; done) | (simp only [exs]; rfl)
theorem Xs_cons {s : S} {ss : SL} : exs P Φ (.cons s ss) δ h = (ex P Φ s δ h).bind (thnO fun δ h => exs P Φ ss δ h) := by
  simp only [exs]
  congr 1
def endO (m : Mode) (n : Nat) (o : Out) : Option (D × Hh) := match o with
  | .nx _ h1 => back m n .non h1
  | .rt r h1 => back m n r h1
  | _ => none
theorem endO_nx {m : Mode} {n : Nat} {δ : Ev} {h1 : Hh} : endO m n (.nx δ h1) = back m n .non h1 := rfl
theorem endO_rt {m : Mode} {n : Nat} {r : D} {h1 : Hh} : endO m n (.rt r h1) = back m n r h1 := rfl
theorem run_go {P : Pg} {n f : Nat} {d : DefI} {ds : List D} {h : Hh} (hd : P.defs[f]? = some d) (hl : ds.length = d.npar) : run P (n + 1) f ds h = (exs P (run P n) d.body (ds.map some ++ List.replicate (d.slots - ds.length) none) h).bind (endO d.mode h.length) := by
  rw [run_at hd hl]
  congr 1
end
section
variable {h : Hh}
theorem bi_lenT {xs : List D} : biF h .len [.tup xs] = some (.int xs.length) := rfl
theorem bi_lenL {xs : List D} : biF h .len [.lst xs] = some (.int xs.length) := rfl
theorem bi_tupL {xs : List D} : biF h .tuple [.lst xs] = some (.tup xs) := rfl
theorem bi_tupT {xs : List D} : biF h .tuple [.tup xs] = some (.tup xs) := rfl
theorem bi_lstT {xs : List D} : biF h .list [.tup xs] = some (.lst xs) := rfl
theorem bi_lstL {xs : List D} : biF h .list [.lst xs] = some (.lst xs) := rfl
theorem bi_int {i : Int} : biF h .int [.int i] = some (.int i) := rfl
theorem bi_max {i j : Int} : biF h .max [.int i, .int j] = some (.int (if j > i then j else i)) := rfl
theorem bi_min {i j : Int} : biF h .min [.int i, .int j] = some (.int (if j < i then j else i)) := rfl
theorem bools_bl : ∀ bs : List Bool, boolsOf (bs.map D.bl) = some bs
  | [] => rfl
  | b :: bs => by simp [boolsOf, bools_bl bs]
theorem bi_allB {bs : List Bool} : biF h .all [.lst (bs.map D.bl)] = some (.bl (bs.all id)) := by
  show ((boolsOf (bs.map D.bl)).map fun bs => D.bl (bs.all id)) = _
  rw [bools_bl]; rfl
theorem bi_anyB {bs : List Bool} : biF h .any [.lst (bs.map D.bl)] = some (.bl (bs.any id)) := by
  show ((boolsOf (bs.map D.bl)).map fun bs => D.bl (bs.any id)) = _
  rw [bools_bl]; rfl
theorem sl_tT {xs : List D} {i : Nat} : slF h (.tup xs) (some (i : Int)) none = some (.tup (xs.drop i)) := by
  have : cutI xs.length (i : Int) = min i xs.length := by unfold cutI; rw [if_neg (by omega), Int.toNat_natCast]
  simp only [slF, Option.map_some, Option.getD_some, Option.map_none, Option.getD_none, cutL, this, Option.some.injEq, D.tup.injEq]
  by_cases q : i ≤ xs.length
  · rw [Nat.min_eq_left q, List.take_of_length_le (by simp)]
  · rw [Nat.min_eq_right (by omega), List.drop_of_length_le (Nat.le_refl _), List.drop_of_length_le (by omega)]
    simp
end
section
variable {h : Hh} {l : Nat} {ks vs xs : List D} {k v : D}
theorem set_dct (e : h[l]? = some (.dct ks vs)) (hk : isKey k = true) (ka : ks.all isKey = true) (hl : ks.length < lim) : setF h (.ref l) k v = some (h.set l (.dct (putAt k v ks vs).1 (putAt k v ks vs).2)) := by
  simp only [setF, e, hk, ka, hl, decide_true, Bool.and_self, if_true]
theorem set_lst {i : Int} (e : h[l]? = some (.lst xs)) (h1 : 0 ≤ i ∧ i.toNat < xs.length) : setF h (.ref l) (.int i) v = some (h.set l (.lst (xs.set i.toNat v))) := by
  simp only [setF, e, h1, and_self, if_true]
end
section
variable {tg : Tg} {b : Ev → Hh → Option Out} {x d : D} {xs : List D} {δ δ1 δ2 : Ev} {h h2 : Hh}
theorem for_nil : forLoop tg b [] δ h = some (.nx δ h) := rfl
theorem for_nx (hp : put tg x δ = some δ1) (hb : b δ1 h = some (.nx δ2 h2)) : forLoop tg b (x :: xs) δ h = forLoop tg b xs δ2 h2 := by simp only [forLoop, hp, hb, Option.bind_some]
theorem for_ct (hp : put tg x δ = some δ1) (hb : b δ1 h = some (.ct δ2 h2)) : forLoop tg b (x :: xs) δ h = forLoop tg b xs δ2 h2 := by simp only [forLoop, hp, hb, Option.bind_some]
theorem for_rt (hp : put tg x δ = some δ1) (hb : b δ1 h = some (.rt d h2)) : forLoop tg b (x :: xs) δ h = some (.rt d h2) := by simp only [forLoop, hp, hb, Option.bind_some]
theorem for_bk (hp : put tg x δ = some δ1) (hb : b δ1 h = some (.bk δ2 h2)) : forLoop tg b (x :: xs) δ h = some (.nx δ2 h2) := by simp only [forLoop, hp, hb, Option.bind_some]
/-- a loop by what holds behind each turn -/
theorem for_inv {α : Type} (u : α → D) (I : List α → Ev → Hh → Prop) : ∀ (xs : List α) (ys : List α) {δ : Ev} {h : Hh}, I ys δ h → (∀ zs x ws δ h, ys ++ xs = zs ++ x :: ws → I zs δ h → ∃ δ1 δ2 h2, put tg (u x) δ = some δ1 ∧ b δ1 h = some (.nx δ2 h2) ∧ I (zs ++ [x]) δ2 h2) → ∃ δ2 h2, forLoop tg b (xs.map u) δ h = some (.nx δ2 h2) ∧ I (ys ++ xs) δ2 h2
  | [], ys, δ, h, i0, _ => ⟨δ, h, rfl, by simpa using i0⟩
  | x :: xs, ys, δ, h, i0, st => by
    obtain ⟨δ1, δ2, h2, e1, e2, i1⟩ := st ys x xs δ h rfl i0
    obtain ⟨δ3, h3, e3, i3⟩ := for_inv u I xs (ys ++ [x]) i1 (by simpa using st)
    exact ⟨δ3, h3, by rw [List.map_cons, for_nx e1 e2, e3], by simpa using i3⟩
end
/-- a comprehension with a test, each turn told -/
theorem lc_filter {α : Type} {h : Hh} {tg : Tg} {c e : Ev → Hh → Option (D × Hh)} {δ : Ev} (u : α → D) (p : α → Bool) (g : α → D) : ∀ {xs : List α}, (∀ x ∈ xs, ∃ δ1, put tg (u x) δ = some δ1 ∧ c δ1 h = some (.bl (p x), h) ∧ e δ1 h = some (g x, h)) → lcLoop tg c e δ (xs.map u) h = some ((xs.filter p).map g, h)
  | [], _ => rfl
  | x :: xs, H => by
    obtain ⟨δ1, h1, h2, h3⟩ := H x List.mem_cons_self
    have ih := lc_filter (tg := tg) (c := c) (e := e) (δ := δ) u p g (xs := xs) fun y hy => H y (List.mem_cons_of_mem _ hy)
    cases hp : p x with
    | true => simp [lcLoop, h1, h2, h3, ih, hp]
    | false => simp [lcLoop, h1, h2, ih, hp]
theorem is_int {h : Hh} {t : Ty} {i : Int} : isiF h t (.int i) = some (decide (t = .int)) := rfl
theorem is_str {h : Hh} {t : Ty} {s : List Nat} : isiF h t (.str s) = some (decide (t = .str)) := rfl
theorem is_tup {h : Hh} {t : Ty} {s : List D} : isiF h t (.tup s) = some (decide (t = .tuple)) := rfl
theorem is_bl {h : Hh} {t : Ty} {b : Bool} : isiF h t (.bl b) = some (decide (t = .bool) || decide (t = .int)) := rfl
theorem is_lst {h : Hh} {t : Ty} {s : List D} : isiF h t (.lst s) = some (decide (t = .list)) := rfl
theorem nc0 : ((0 : Nat) : Int) = 0 := rfl
theorem nc1 : ((1 : Nat) : Int) = 1 := rfl
theorem nc2 : ((2 : Nat) : Int) = 2 := rfl
theorem nc3 : ((3 : Nat) : Int) = 3 := rfl
theorem nc4 : ((4 : Nat) : Int) = 4 := rfl
theorem nc5 : ((5 : Nat) : Int) = 5 := rfl
theorem nc6 : ((6 : Nat) : Int) = 6 := rfl
theorem nc7 : ((7 : Nat) : Int) = 7 := rfl
theorem nc8 : ((8 : Nat) : Int) = 8 := rfl
theorem nc9 : ((9 : Nat) : Int) = 9 := rfl
theorem nc10 : ((10 : Nat) : Int) = 10 := rfl
theorem nc11 : ((11 : Nat) : Int) = 11 := rfl
theorem nc12 : ((12 : Nat) : Int) = 12 := rfl
theorem nc20 : ((20 : Nat) : Int) = 20 := rfl
end VI

/-! the defs of rules and graphs: the same in all laws -/
namespace GB
open VI
/-- letters_of -/
def b0 : SL :=
  (.cons (.ret (.bin .add (.glo 0) (.slH (.glo 1) (.var 0))))
 .nil)
/-- RuleReader.__init__ -/
def b1 : SL :=
  (.cons (.asgF 0 (.var 0) 0 (.var 1))
 (.cons (.asgF 0 (.var 0) 1 (.var 2))
 (.cons (.asgF 0 (.var 0) 2 (.cst (.int 0)))
 (.cons (.asgF 0 (.var 0) 3 (.cst (.int 0)))
 (.cons (.asgF 0 (.var 0) 4 (.cst (.bl false)))
 .nil)))))
/-- RuleReader.comes -/
def b2 : SL :=
  (.cons (.ret (.andV (.cmp .lt (.fld 0 (.var 0) 2) (.bi .len (.cons (.fld 0 (.var 0) 0) .nil))) (.cmp .inn (.idx (.fld 0 (.var 0) 0) (.fld 0 (.var 0) 2)) (.var 1))))
 .nil)
/-- RuleReader.take -/
def b3 : SL :=
  (.cons (.augF 0 (.var 0) 2 .add (.cst (.int 1)))
 (.cons (.ret (.idx (.fld 0 (.var 0) 0) (.bin .sub (.fld 0 (.var 0) 2) (.cst (.int 1)))))
 .nil))
/-- RuleReader.fail -/
def b4 : SL :=
  (.cons (.asgF 0 (.var 0) 4 (.cst (.bl true)))
 (.cons (.ret (.glo 8))
 .nil))
/-- RuleReader.read_sum -/
def b5 : SL :=
  (.cons (.asg (.nm 1) (.meth 6 (.var 0) .nil))
 (.cons (.while (.meth 2 (.var 0) (.cons (.cst (.str [43, 45])) .nil))
  (.cons (.asg (.nm 2) (.meth 3 (.var 0) .nil))
   (.cons (.asg (.nm 1) (.tup (.cons (.var 2) (.cons (.var 1) (.cons (.meth 6 (.var 0) .nil) .nil)))))
   .nil)))
 (.cons (.ret (.var 1))
 .nil)))
/-- RuleReader.read_product -/
def b6 : SL :=
  (.cons (.asg (.nm 1) (.meth 7 (.var 0) .nil))
 (.cons (.while (.meth 2 (.var 0) (.cons (.cst (.str [42])) .nil))
  (.cons (.asg (.nm 2) (.meth 3 (.var 0) .nil))
   (.cons (.asg (.nm 1) (.tup (.cons (.var 2) (.cons (.var 1) (.cons (.meth 7 (.var 0) .nil) .nil)))))
   .nil)))
 (.cons (.ret (.var 1))
 .nil)))
/-- RuleReader.read_factor -/
def b7 : SL :=
  (.cons (.ite (.meth 2 (.var 0) (.cons (.glo 5) .nil))
  (.cons (.ret (.meth 8 (.var 0) .nil))
   .nil)
  .nil)
 (.cons (.ite (.meth 2 (.var 0) (.cons (.fld 0 (.var 0) 1) .nil))
  (.cons (.ret (.tup (.cons (.glo 7) (.cons (.meth 3 (.var 0) .nil) .nil))))
   .nil)
  .nil)
 (.cons (.ite (.orV (.notV (.meth 2 (.var 0) (.cons (.cst (.str [40])) .nil))) (.cmp .eq (.fld 0 (.var 0) 3) (.glo 3)))
  (.cons (.ret (.meth 4 (.var 0) .nil))
   .nil)
  .nil)
 (.cons (.expr (.meth 3 (.var 0) .nil))
 (.cons (.augF 0 (.var 0) 3 .add (.cst (.int 1)))
 (.cons (.asg (.nm 1) (.meth 5 (.var 0) .nil))
 (.cons (.augF 0 (.var 0) 3 .sub (.cst (.int 1)))
 (.cons (.ite (.notV (.meth 2 (.var 0) (.cons (.cst (.str [41])) .nil)))
  (.cons (.ret (.meth 4 (.var 0) .nil))
   .nil)
  .nil)
 (.cons (.expr (.meth 3 (.var 0) .nil))
 (.cons (.ret (.var 1))
 .nil))))))))))
/-- RuleReader.read_number -/
def b8 : SL :=
  (.cons (.asg (.nm 1) (.cst (.str [])))
 (.cons (.while (.meth 2 (.var 0) (.cons (.glo 5) .nil))
  (.cons (.asg (.nm 1) (.bin .add (.var 1) (.meth 3 (.var 0) .nil)))
   .nil))
 (.cons (.ite (.orV (.cmp .gt (.bi .len (.cons (.var 1) .nil)) (.glo 4)) (.andV (.cmp .eq (.idx (.var 1) (.cst (.int 0))) (.cst (.str [48]))) (.cmp .ne (.var 1) (.cst (.str [48])))))
  (.cons (.ret (.meth 4 (.var 0) .nil))
   .nil)
  .nil)
 (.cons (.ret (.tup (.cons (.glo 6) (.cons (.bi .int (.cons (.var 1) .nil)) .nil))))
 .nil))))
/-- read_rule -/
def b9 : SL :=
  (.cons (.ite (.orV (.notV (.isi (.var 0) .str)) (.notV (.chain .le .le (.cst (.int 1)) (.bi .len (.cons (.var 0) .nil)) (.glo 2))))
  (.cons (.ret (.cst .non))
   .nil)
  .nil)
 (.cons (.asg (.nm 2) (.make 1 (.cons (.var 0) (.cons (.var 1) .nil))))
 (.cons (.asg (.nm 3) (.meth 5 (.var 2) .nil))
 (.cons (.ite (.orV (.fld 0 (.var 2) 4) (.cmp .lt (.fld 0 (.var 2) 2) (.bi .len (.cons (.var 0) .nil))))
  (.cons (.ret (.cst .non))
   .nil)
  .nil)
 (.cons (.ret (.var 3))
 .nil)))))
/-- worth -/
def b10 : SL :=
  (.cons (.asg (.nm 2) (.idx (.var 0) (.cst (.int 0))))
 (.cons (.ite (.cmp .eq (.var 2) (.glo 6))
  (.cons (.ret (.idx (.var 0) (.cst (.int 1))))
   .nil)
  .nil)
 (.cons (.ite (.cmp .eq (.var 2) (.glo 7))
  (.cons (.ret (.idx (.var 1) (.idx (.var 0) (.cst (.int 1)))))
   .nil)
  .nil)
 (.cons (.par 3 4 (.call 10 (.cons (.idx (.var 0) (.cst (.int 1))) (.cons (.var 1) .nil))) (.call 10 (.cons (.idx (.var 0) (.cst (.int 2))) (.cons (.var 1) .nil))))
 (.cons (.ite (.cmp .eq (.var 2) (.cst (.str [42])))
  (.cons (.ret (.bin .mul (.var 3) (.var 4)))
   .nil)
  .nil)
 (.cons (.ret (.ite (.cmp .eq (.var 2) (.cst (.str [43]))) (.bin .add (.var 3) (.var 4)) (.bin .sub (.var 3) (.var 4))))
 .nil))))))
/-- is_integer -/
def b11 : SL :=
  (.cons (.ret (.andV (.isi (.var 0) .int) (.notV (.isi (.var 0) .bool))))
 .nil)
/-- is_between -/
def b12 : SL :=
  (.cons (.ret (.andV (.call 11 (.cons (.var 0) .nil)) (.chain .le .le (.var 1) (.var 0) (.var 2))))
 .nil)
/-- is_name -/
def b13 : SL :=
  (.cons (.ite (.orV (.notV (.isi (.var 0) .str)) (.notV (.chain .le .le (.cst (.int 1)) (.bi .len (.cons (.var 0) .nil)) (.glo 10))))
  (.cons (.ret (.cst (.bl false)))
   .nil)
  .nil)
 (.cons (.ret (.bi .all (.cons (.lc (.nm 1) [1] (.seq (.var 0)) (.cst (.bl true)) (.cmp .inn (.var 1) (.glo 9))) .nil)))
 .nil))
/-- are_feeds -/
def b14 : SL :=
  (.cons (.ite (.orV (.notV (.isi (.var 0) .tuple)) (.cmp .gt (.bi .len (.cons (.var 0) .nil)) (.glo 15)))
  (.cons (.ret (.cst (.bl false)))
   .nil)
  .nil)
 (.cons (.ite (.notV (.bi .all (.cons (.lc (.nm 2) [2] (.seq (.var 0)) (.cst (.bl true)) (.andV (.isi (.var 2) .str) (.cmp .inn (.var 2) (.var 1)))) .nil)))
  (.cons (.ret (.cst (.bl false)))
   .nil)
  .nil)
 (.cons (.ret (.cmp .eq (.bi .len (.cons (.dc (.nm 2) [2] (.seq (.var 0)) (.var 2) (.cst (.bl true))) .nil)) (.bi .len (.cons (.var 0) .nil))))
 .nil)))
/-- is_task -/
def b15 : SL :=
  (.cons (.ite (.orV (.notV (.isi (.var 0) .tuple)) (.cmp .ne (.bi .len (.cons (.var 0) .nil)) (.glo 11)))
  (.cons (.ret (.cst (.bl false)))
   .nil)
  .nil)
 (.cons (.asg (.tp [2, 3, 4, 5, 6]) (.var 0))
 (.cons (.ite (.orV (.notV (.call 13 (.cons (.var 2) .nil))) (.orV (.cmp .inn (.var 2) (.var 1)) (.notV (.call 12 (.cons (.var 3) (.cons (.glo 13) (.cons (.glo 14) .nil)))))))
  (.cons (.ret (.cst (.bl false)))
   .nil)
  .nil)
 (.cons (.ite (.orV (.notV (.call 14 (.cons (.var 4) (.cons (.var 1) .nil)))) (.notV (.call 12 (.cons (.var 5) (.cons (.cst (.int 1)) (.cons (.glo 16) .nil))))))
  (.cons (.ret (.cst (.bl false)))
   .nil)
  .nil)
 (.cons (.ret (.cmp .notn (.call 9 (.cons (.var 6) (.cons (.call 0 (.cons (.bi .len (.cons (.var 4) .nil)) .nil)) .nil))) (.cst .non)))
 .nil)))))
/-- is_graph -/
def b16 : SL :=
  (.cons (.ite (.orV (.notV (.isi (.var 0) .tuple)) (.notV (.chain .le .le (.cst (.int 1)) (.bi .len (.cons (.var 0) .nil)) (.glo 12))))
  (.cons (.ret (.cst (.bl false)))
   .nil)
  .nil)
 (.cons (.asg (.nm 1) .mdct)
 (.cons (.for (.nm 2) (.seq (.var 0))
  (.cons (.ite (.notV (.call 15 (.cons (.var 2) (.cons (.var 1) .nil))))
    (.cons (.ret (.cst (.bl false)))
     .nil)
    .nil)
   (.cons (.asgI (.var 1) (.idx (.var 2) (.cst (.int 0))) (.cst (.bl true)))
   .nil)))
 (.cons (.ret (.cst (.bl true)))
 .nil))))
/-- Graph.__init__ -/
def b17 : SL :=
  (.cons (.ite (.notV (.call 16 (.cons (.var 1) .nil)))
  (.cons .never
   .nil)
  .nil)
 (.cons (.asgF 1 (.var 0) 5 (.var 1))
 (.cons (.asgF 1 (.var 0) 6 (.dc (.tp [2, 3]) [2, 3] (.enum (.var 1)) (.idx (.var 3) (.cst (.int 0))) (.var 2)))
 (.cons (.asgF 1 (.var 0) 7 (.bi .tuple (.cons (.lc (.nm 3) [3] (.seq (.var 1)) (.cst (.bl true)) (.call 9 (.cons (.idx (.var 3) (.cst (.int 4))) (.cons (.call 0 (.cons (.bi .len (.cons (.idx (.var 3) (.cst (.int 2))) .nil)) .nil)) .nil)))) .nil)))
 .nil))))
/-- Graph.__contains__ -/
def b18 : SL :=
  (.cons (.ret (.andV (.isi (.var 1) .str) (.cmp .inn (.var 1) (.fld 1 (.var 0) 6))))
 .nil)
/-- Graph.place -/
def b19 : SL :=
  (.cons (.ite (.has true 18 (.var 1) (.var 0))
  (.cons .never
   .nil)
  .nil)
 (.cons (.ret (.idx (.fld 1 (.var 0) 6) (.var 1)))
 .nil))
/-- Graph.size -/
def b20 : SL :=
  (.cons (.ret (.idx (.idx (.fld 1 (.var 0) 5) (.meth 19 (.var 0) (.cons (.var 1) .nil))) (.cst (.int 1))))
 .nil)
/-- Graph.feeds -/
def b21 : SL :=
  (.cons (.ret (.idx (.idx (.fld 1 (.var 0) 5) (.meth 19 (.var 0) (.cons (.var 1) .nil))) (.cst (.int 2))))
 .nil)
/-- Graph.rounds -/
def b22 : SL :=
  (.cons (.ret (.idx (.idx (.fld 1 (.var 0) 5) (.meth 19 (.var 0) (.cons (.var 1) .nil))) (.cst (.int 3))))
 .nil)
/-- Graph.has_values -/
def b23 : SL :=
  (.cons (.asg (.nm 3) (.lc (.nm 4) [4] (.seq (.meth 21 (.var 0) (.cons (.var 1) .nil))) (.cst (.bl true)) (.meth 20 (.var 0) (.cons (.var 4) .nil))))
 (.cons (.ite (.orV (.notV (.isi (.var 2) .tuple)) (.cmp .ne (.bi .len (.cons (.var 2) .nil)) (.bi .len (.cons (.var 3) .nil))))
  (.cons (.ret (.cst (.bl false)))
   .nil)
  .nil)
 (.cons (.ret (.bi .all (.cons (.lc (.tp [5, 6]) [5, 6] (.zip (.var 2) (.var 3)) (.cst (.bl true)) (.call 12 (.cons (.var 5) (.cons (.cst (.int 0)) (.cons (.bin .sub (.var 6) (.cst (.int 1))) .nil))))) .nil)))
 .nil)))
/-- Graph.led_on -/
def b24 : SL :=
  (.cons (.par 6 7 (.idx (.fld 1 (.var 0) 7) (.meth 19 (.var 0) (.cons (.var 1) .nil))) (.dz (.glo 1) (.var 2)))
 (.cons (.for (.nm 5) (.range1 (.var 4))
  (.cons (.asgI (.var 7) (.glo 0) (.var 3))
   (.cons (.asg (.nm 3) (.bin .mod (.call 10 (.cons (.var 6) (.cons (.var 7) .nil))) (.meth 20 (.var 0) (.cons (.var 1) .nil))))
   .nil)))
 (.cons (.ret (.var 3))
 .nil)))
/-- Graph.names -/
def b25 : SL :=
  (.cons (.ret (.bi .tuple (.cons (.lc (.nm 1) [1] (.seq (.fld 1 (.var 0) 5)) (.cst (.bl true)) (.idx (.var 1) (.cst (.int 0)))) .nil)))
 .nil)
/-- Graph.state -/
def b26 : SL :=
  (.cons (.ite (.notV (.meth 23 (.var 0) (.cons (.var 1) (.cons (.var 2) .nil))))
  (.cons .never
   .nil)
  .nil)
 (.cons (.ite (.notV (.call 12 (.cons (.var 3) (.cons (.cst (.int 0)) (.cons (.meth 22 (.var 0) (.cons (.var 1) .nil)) .nil)))))
  (.cons .never
   .nil)
  .nil)
 (.cons (.ret (.meth 24 (.var 0) (.cons (.var 1) (.cons (.var 2) (.cons (.cst (.int 0)) (.cons (.var 3) .nil))))))
 .nil)))
/-- Graph.run -/
def b27 : SL :=
  (.cons (.ret (.meth 26 (.var 0) (.cons (.var 1) (.cons (.var 2) (.cons (.meth 22 (.var 0) (.cons (.var 1) .nil)) .nil)))))
 .nil)
/-- Graph.results -/
def b28 : SL :=
  (.cons (.asg (.nm 1) .mdct)
 (.cons (.for (.tp [2, 3, 4, 5, 6]) (.seq (.fld 1 (.var 0) 5))
  (.cons (.asgI (.var 1) (.var 2) (.meth 27 (.var 0) (.cons (.var 2) (.cons (.bi .tuple (.cons (.lc (.nm 7) [7] (.seq (.var 4)) (.cst (.bl true)) (.idx (.var 1) (.var 7))) .nil)) .nil))))
   .nil))
 (.cons (.ret (.bi .tuple (.cons (.lc (.nm 2) [2] (.seq (.prop 25 (.var 0))) (.cst (.bl true)) (.idx (.var 1) (.var 2))) .nil)))
 .nil)))
/-- Graph.needs -/
def b29 : SL :=
  (.cons (.asgT [(.nm 3), (.nm 4)] (.cons (.meth 19 (.var 0) (.cons (.var 1) .nil)) (.cons (.dsp (.cons (.var 1) (.cons (.cst (.bl true)) .nil))) .nil)))
 (.cons (.for (.nm 2) (.down (.var 3) (.neg (.cst (.int 1))))
  (.cons (.asg (.nm 5) (.idx (.fld 1 (.var 0) 5) (.var 2)))
   (.cons (.ite (.cmp .inn (.idx (.var 5) (.cst (.int 0))) (.var 4))
    (.cons (.expr (.upd (.var 4) (.dc (.nm 7) [7] (.seq (.idx (.var 5) (.cst (.int 2)))) (.var 7) (.cst (.bl true)))))
     .nil)
    .nil)
   .nil)))
 (.cons (.ret (.bi .tuple (.cons (.lc (.nm 6) [6] (.seq (.prop 25 (.var 0))) (.cmp .inn (.var 6) (.var 4)) (.var 6)) .nil)))
 .nil)))
/-- Graph.uses -/
def b30 : SL :=
  (.cons (.asgT [(.nm 3), (.nm 4)] (.cons (.meth 19 (.var 0) (.cons (.var 1) .nil)) (.cons (.dsp (.cons (.var 1) (.cons (.cst (.bl true)) .nil))) .nil)))
 (.cons (.for (.nm 2) (.seq (.slT (.fld 1 (.var 0) 5) (.var 3)))
  (.cons (.ite (.bi .any (.cons (.lc (.nm 6) [6] (.seq (.idx (.var 2) (.cst (.int 2)))) (.cst (.bl true)) (.cmp .inn (.var 6) (.var 4))) .nil))
    (.cons (.asgI (.var 4) (.idx (.var 2) (.cst (.int 0))) (.cst (.bl true)))
     .nil)
    .nil)
   .nil))
 (.cons (.ret (.bi .tuple (.cons (.lc (.nm 5) [5] (.seq (.prop 25 (.var 0))) (.cmp .inn (.var 5) (.var 4)) (.var 5)) .nil)))
 .nil)))
def defs : List DefI := [
  ⟨.glob, none, 1, 1, .clo, b0⟩,
  ⟨.init, some 0, 3, 3, .clo, b1⟩,
  ⟨.meth, some 0, 2, 2, .clo, b2⟩,
  ⟨.meth, some 0, 1, 1, .clo, b3⟩,
  ⟨.meth, some 0, 1, 1, .clo, b4⟩,
  ⟨.meth, some 0, 3, 1, .clo, b5⟩,
  ⟨.meth, some 0, 3, 1, .clo, b6⟩,
  ⟨.meth, some 0, 2, 1, .clo, b7⟩,
  ⟨.meth, some 0, 2, 1, .clo, b8⟩,
  ⟨.glob, none, 4, 2, .clo, b9⟩,
  ⟨.glob, none, 5, 2, .clo, b10⟩,
  ⟨.glob, none, 1, 1, .clo, b11⟩,
  ⟨.glob, none, 3, 3, .clo, b12⟩,
  ⟨.glob, none, 2, 1, .clo, b13⟩,
  ⟨.glob, none, 3, 2, .clo, b14⟩,
  ⟨.glob, none, 7, 2, .clo, b15⟩,
  ⟨.glob, none, 3, 1, .clo, b16⟩,
  ⟨.init, some 1, 4, 2, .clo, b17⟩,
  ⟨.meth, some 1, 2, 2, .clo, b18⟩,
  ⟨.meth, some 1, 2, 2, .clo, b19⟩,
  ⟨.meth, some 1, 2, 2, .clo, b20⟩,
  ⟨.meth, some 1, 2, 2, .clo, b21⟩,
  ⟨.meth, some 1, 2, 2, .clo, b22⟩,
  ⟨.meth, some 1, 7, 3, .clo, b23⟩,
  ⟨.meth, some 1, 8, 5, .clo, b24⟩,
  ⟨.prop, some 1, 2, 1, .clo, b25⟩,
  ⟨.meth, some 1, 4, 4, .clo, b26⟩,
  ⟨.meth, some 1, 3, 3, .clo, b27⟩,
  ⟨.meth, some 1, 8, 1, .clo, b28⟩,
  ⟨.meth, some 1, 8, 2, .clo, b29⟩,
  ⟨.meth, some 1, 7, 2, .clo, b30⟩]
def consts : List D := [(.str [115]), (.str [97, 98, 99]), (.int 40), (.int 6), (.int 3), (.str [48, 49, 50, 51, 52, 53, 54, 55, 56, 57]), (.str [110, 117, 109, 98, 101, 114]), (.str [108, 101, 116, 116, 101, 114]), (.tup [(.str [110, 117, 109, 98, 101, 114]), (.int 0)]), (.str [97, 98, 99, 100, 101, 102, 103, 104, 105, 106, 107, 108, 109, 110, 111, 112, 113, 114, 115, 116, 117, 118, 119, 120, 121, 122]), (.int 8), (.int 5), (.int 20), (.int 2), (.int 5), (.int 3), (.int 60)]
structure Bs (P : Pg) : Prop where
  d : ∀ (i : Nat) (d : DefI), defs[i]? = some d → P.defs[i]? = some d
  c : ∀ (i : Nat) (d : D), consts[i]? = some d → P.consts[i]? = some d
end GB

/-! a rule's text is read: the reader's methods and the plain reading -/
namespace GB
open VI
def rd (s ls : List Nat) (p o : Nat) (b : Bool) : Ob := .ins 0 [(0, .str s), (1, .str ls), (2, .int p), (3, .int o), (4, .bl b)]
def comesP (s : List Nat) (p : Nat) (sg : List Nat) : Bool := match s[p]? with
  | some c => sg.contains c
  | none => false
abbrev R := D × Nat × Bool
def nought : D := .tup [.str [110, 117, 109, 98, 101, 114], .int 0]
def loopR (s : List Nat) (sg : List Nat) (sub : Nat → Bool → R) : Nat → D → Nat → Bool → R
  | 0, t, p, b => (t, p, b)
  | m + 1, t, p, b => match comesP s p sg with
    | true => loopR s sg sub m (.tup [.str [s.getD p 0], t, (sub (p + 1) b).1]) (sub (p + 1) b).2.1 (sub (p + 1) b).2.2
    | false => (t, p, b)
def rowR (s : List Nat) (sg : List Nat) (sub : Nat → Bool → R) (p : Nat) (b : Bool) : R := loopR s sg sub s.length (sub p b).1 (sub p b).2.1 (sub p b).2.2
def digits : List Nat := [48, 49, 50, 51, 52, 53, 54, 55, 56, 57]
def wordR (s : List Nat) : Nat → List Nat → Nat → List Nat × Nat
  | 0, w, p => (w, p)
  | m + 1, w, p => match comesP s p digits with
    | true => wordR s m (w ++ [s.getD p 0]) (p + 1)
    | false => (w, p)
def numR (s : List Nat) (p : Nat) (b : Bool) : R :=
  let w := wordR s s.length [] p
  if 3 < w.1.length ∨ (w.1.getD 0 0 = 48 ∧ w.1 ≠ [48]) then (nought, w.2, true) else (.tup [.str [110, 117, 109, 98, 101, 114], .int (digV 0 w.1)], w.2, b)
def facR (s ls : List Nat) (inner : Option (Nat → Bool → R)) (p : Nat) (b : Bool) : R :=
  match comesP s p digits with
  | true => numR s p b
  | false => match comesP s p ls with
    | true => (.tup [.str [108, 101, 116, 116, 101, 114], .str [s.getD p 0]], p + 1, b)
    | false => match comesP s p [40], inner with
      | true, some f => (match comesP s (f (p + 1) b).2.1 [41] with
        | true => ((f (p + 1) b).1, (f (p + 1) b).2.1 + 1, (f (p + 1) b).2.2)
        | false => (nought, (f (p + 1) b).2.1, true))
      | _, _ => (nought, p, true)
/-- a sum, with k parentheses that may still be opened -/
def sumR (s ls : List Nat) : Nat → Nat → Bool → R
  | 0 => rowR s [43, 45] (rowR s [42] (facR s ls none))
  | k + 1 => rowR s [43, 45] (rowR s [42] (facR s ls (some (sumR s ls k))))
/-- what read_rule tells -/
def ruleR (s ls : List Nat) : D :=
  if 1 ≤ s.length ∧ s.length ≤ 40 then
    let r := sumR s ls 6 0 false
    if r.2.2 = true ∨ r.2.1 < s.length then .non else r.1
  else .non
theorem back_same {d : D} {h h1 : Hh} (e : h1.length = h.length) : back .clo h.length d h1 = some (d, h1) := if_pos e
section
variable {P : Pg} {n l : Nat} {h : Hh} {s ls : List Nat} {p o : Nat} {b : Bool}
theorem ins_rd (hl : h[l]? = some (rd s ls p o b)) : insAt h (.ref l) = some (l, 0, [(0, .str s), (1, .str ls), (2, .int p), (3, .int o), (4, .bl b)]) := by
  simp only [insAt, hl, rd]
theorem comes_lt {sg : List Nat} (h : comesP s p sg = true) : p < s.length := by
  unfold comesP at h
  split at h
  · rename_i c e
    exact (List.getElem?_eq_some_iff.mp e).1
  · cases h
theorem getD_at (hp : p < s.length) : s.getD p 0 = s[p] := by simp [List.getD, hp]
theorem len_str {g : Hh} (hs : s.length ≤ 1000) : biF g .len [.str s] = some (.int s.length) := if_pos (Nat.le_of_lt (lim_big hs))
theorem idx_str {g : Hh} (hs : s.length ≤ 1000) (hp : p < s.length) : idxF g (.str s) (.int p) = some (.str [s.getD p 0]) := by
  show (if 0 ≤ (p : Int) ∧ s.length ≤ lim then (s[(p : Int).toNat]?).map fun c => D.str [c] else none) = _
  rw [if_pos ⟨by omega, Nat.le_of_lt (lim_big hs)⟩, Int.toNat_natCast, List.getElem?_eq_getElem hp, getD_at hp]
  rfl
/-- self.comes(signs) -/
theorem r_comes (B : Bs P) (hl : h[l]? = some (rd s ls p o b)) (hs : s.length ≤ 1000) {sg : List Nat} : run P (n + 1) 2 [.ref l, .str sg] h = some (.bl (comesP s p sg), h) := by
  refine (run_ret (B.d 2 _ rfl) rfl ?_).trans (back_same rfl)
  have f2 : ev P (run P n) (.fld 0 (.var 0) 2) [some (.ref l), some (.str sg)] h = some (.int p, h) := e_fld (e_var rfl) (ins_rd hl) rfl
  have f0 : ev P (run P n) (.fld 0 (.var 0) 0) [some (.ref l), some (.str sg)] h = some (.str s, h) := e_fld (e_var rfl) (ins_rd hl) rfl
  have lt : ev P (run P n) (.cmp .lt (.fld 0 (.var 0) 2) (.bi .len (.cons (.fld 0 (.var 0) 0) .nil))) [some (.ref l), some (.str sg)] h = some (.bl (decide ((p : Int) < s.length)), h) := e_cmp f2 (e_bi (es_cons f0 es_nil) (len_str hs)) o_lt
  by_cases hp : p < s.length
  · rw [decide_eq_true (by omega)] at lt
    refine exs_rt (x_ret ((e_andT lt).trans ?_))
    have : comesP s p sg = sg.contains (s.getD p 0) := by
      unfold comesP
      rw [List.getElem?_eq_getElem hp, getD_at hp]
    rw [this]
    exact e_cmp (e_idx f0 f2 (idx_str hs hp)) (e_var rfl) rfl
  · rw [decide_eq_false (by omega)] at lt
    have : comesP s p sg = false := by
      unfold comesP
      rw [List.getElem?_eq_none (by omega)]
    rw [this]
    exact exs_rt (x_ret (e_andF lt))
theorem x_augF {Φ : Fn} {δ : Ev} {a c : E} {cc g : Nat} {fs : List (Nat × D)} {i j : Int} {r : D} {op : Op} {x : D} (ha : ev P Φ a δ h = some (x, h)) (hi : insAt h x = some (l, cc, fs)) (hf : fget fs g = some (.int i)) (hc : ev P Φ c δ h = some (.int j, h)) (ho : op2 h op (.int i) (.int j) = some r) (hl : fs.length < 900) :
    ex P Φ (.augF cc a g op c) δ h = some (.nx δ (h.set l (.ins cc (fput fs g r)))) := by
  simp only [ex, ha, hi, hf, hc, ho, hl, Option.bind_some, and_self, if_true, Option.map_some]
theorem set_at (hl : h[l]? = some (rd s ls p o b)) (x : Ob) : (h.set l x)[l]? = some x := by
  rw [List.getElem?_set_self (List.getElem?_eq_some_iff.mp hl).1]
theorem set_set (x y : Ob) : (h.set l x).set l y = h.set l y := by simp
theorem set_self (hl : h[l]? = some (rd s ls p o b)) : h.set l (rd s ls p o b) = h := by
  have hlt := (List.getElem?_eq_some_iff.mp hl).1
  have he := (List.getElem?_eq_some_iff.mp hl).2
  rw [← he]; simp
/-- self.take() -/
theorem r_take (B : Bs P) (hl : h[l]? = some (rd s ls p o b)) (hs : s.length ≤ 1000) (hp : p < s.length) : run P (n + 1) 3 [.ref l] h = some (.str [s.getD p 0], h.set l (rd s ls (p + 1) o b)) := by
  refine (run_ret (B.d 3 _ rfl) rfl ?_).trans (back_same (by simp))
  refine (exs_nx (x_augF (r := .int ((p : Int) + 1)) (e_var rfl) (ins_rd hl) rfl rfl o_add (show 5 < 900 by decide))).trans ?_
  have e : h.set l (.ins 0 (fput [(0, .str s), (1, .str ls), (2, .int p), (3, .int o), (4, .bl b)] 2 (.int ((p : Int) + 1)))) = h.set l (rd s ls (p + 1) o b) := rfl
  rw [e]
  have hl2 := set_at hl (rd s ls (p + 1) o b)
  refine exs_rt (x_ret (e_idx (e_fld (e_var rfl) (ins_rd hl2) rfl) (e_bin (e_fld (e_var rfl) (ins_rd hl2) rfl) rfl o_sub) ?_))
  rw [show (((p + 1 : Nat) : Int) - 1) = (p : Int) by omega]
  exact idx_str hs hp
/-- self.fail() -/
theorem r_fail (B : Bs P) (hl : h[l]? = some (rd s ls p o b)) : run P (n + 1) 4 [.ref l] h = some (nought, h.set l (rd s ls p o true)) := by
  refine (run_ret (B.d 4 _ rfl) rfl ?_).trans (back_same (by simp))
  refine (exs_nx (x_asgF (x := .bl true) rfl (e_var rfl) (ins_rd hl) (show 5 < 900 by decide))).trans ?_
  exact exs_rt (x_ret (e_glo (B.c 8 _ rfl)))
/-! ### walks of the reader -/
theorem w_on {t : Ev → Hh → Option (D × Hh)} {bd : Ev → Hh → Option Out} {m : Nat} {δ δ2 : Ev} {g h1 h2 : Hh} (e1 : t δ g = some (.bl true, h1)) (e2 : bd δ h1 = some (.nx δ2 h2)) : whileLoop t bd (m + 1) δ g = whileLoop t bd m δ2 h2 := by
  simp only [whileLoop, e1, e2, Option.bind_some]
theorem w_off {t : Ev → Hh → Option (D × Hh)} {bd : Ev → Hh → Option Out} {m : Nat} {δ : Ev} {g h1 : Hh} (e1 : t δ g = some (.bl false, h1)) : whileLoop t bd (m + 1) δ g = some (.nx δ h1) := by
  simp only [whileLoop, e1, Option.bind_some]
/-- a method of the reader gives what g tells, with o parentheses open -/
def Sp (P : Pg) (s ls : List Nat) (n f o : Nat) (g : Nat → Bool → R) : Prop := ∀ (h : Hh) (l p : Nat) (b : Bool), h[l]? = some (rd s ls p o b) → run P n f [.ref l] h = some ((g p b).1, h.set l (rd s ls (g p b).2.1 o (g p b).2.2))
def Up (g : Nat → Bool → R) : Prop := ∀ (p : Nat) (b : Bool), p ≤ (g p b).2.1
theorem loop_up {sg : List Nat} {sub : Nat → Bool → R} (u : Up sub) : ∀ (m : Nat) (t : D) (p : Nat) (b : Bool), p ≤ (loopR s sg sub m t p b).2.1
  | 0, t, p, b => Nat.le_refl _
  | m + 1, t, p, b => by
    unfold loopR
    split
    · exact Nat.le_trans (Nat.le_trans (Nat.le_succ p) (u (p + 1) b)) (loop_up u m _ _ _)
    · exact Nat.le_refl _
theorem row_up {sg : List Nat} {sub : Nat → Bool → R} (u : Up sub) : Up (rowR s sg sub) := fun p b => Nat.le_trans (u p b) (loop_up u _ _ _ _)
theorem word_up : ∀ (m : Nat) (w : List Nat) (p : Nat), p ≤ (wordR s m w p).2
  | 0, w, p => Nat.le_refl _
  | m + 1, w, p => by
    unfold wordR
    split
    · exact Nat.le_trans (Nat.le_succ p) (word_up m _ _)
    · exact Nat.le_refl _
theorem num_up : Up (numR s) := fun p b => by
  unfold numR
  dsimp only
  split
  · exact word_up _ _ _
  · exact word_up _ _ _
theorem fac_up {inner : Option (Nat → Bool → R)} (u : ∀ f, inner = some f → Up f) : Up (facR s ls inner) := fun p b => by
  unfold facR
  split
  · exact num_up p b
  · split
    · exact Nat.le_succ p
    · cases inner with
      | none => cases comesP s p [40] <;> exact Nat.le_refl _
      | some f =>
        cases comesP s p [40] with
        | false => exact Nat.le_refl _
        | true =>
          have := u f rfl (p + 1) b
          show p ≤ (match comesP s (f (p + 1) b).2.1 [41] with
            | true => ((f (p + 1) b).1, (f (p + 1) b).2.1 + 1, (f (p + 1) b).2.2)
            | false => (nought, (f (p + 1) b).2.1, true)).2.1
          split
          · show p ≤ (f (p + 1) b).2.1 + 1; omega
          · show p ≤ (f (p + 1) b).2.1; omega
theorem sum_up : ∀ k : Nat, Up (sumR s ls k)
  | 0 => row_up (row_up (fac_up fun f q => nomatch q))
  | k + 1 => row_up (row_up (fac_up fun f q => by cases q; exact sum_up k))
/-- the walk of read_sum and read_product -/
theorem walk_loop (B : Bs P) (hs : s.length ≤ 1000) {sg : List Nat} {f : Nat} {sub : Nat → Bool → R} {dd : DefI} (hd : P.defs[f]? = some dd) (hc : dd.cls = some 0) (S : Sp P s ls (n + 1) f o sub) (u : Up sub) : ∀ (m M : Nat) (t : D) (p : Nat) (b : Bool) (h : Hh) (x : Option D), h[l]? = some (rd s ls p o b) → s.length ≤ p + m → m < M →
    ∃ y, whileLoop (ev P (run P (n + 1)) (.meth 2 (.var 0) (.cons (.cst (.str sg)) .nil))) (exs P (run P (n + 1)) (.cons (.asg (.nm 2) (.meth 3 (.var 0) .nil)) (.cons (.asg (.nm 1) (.tup (.cons (.var 2) (.cons (.var 1) (.cons (.meth f (.var 0) .nil) .nil))))) .nil))) M [some (.ref l), some t, x] h
      = some (.nx [some (.ref l), some (loopR s sg sub m t p b).1, y] (h.set l (rd s ls (loopR s sg sub m t p b).2.1 o (loopR s sg sub m t p b).2.2)))
  | m, 0, t, p, b, h, x, hl, h1, h2 => absurd h2 (Nat.not_lt_zero _)
  | 0, M + 1, t, p, b, h, x, hl, h1, h2 => by
    have c0 : comesP s p sg = false := by
      cases e : comesP s p sg with
      | false => rfl
      | true => have := comes_lt e; omega
    have e1 : ev P (run P (n + 1)) (.meth 2 (.var 0) (.cons (.cst (.str sg)) .nil)) [some (.ref l), some t, x] h = some (.bl false, h) := by
      rw [← c0]
      exact e_meth (e_var rfl) (ins_rd hl) (es_cons rfl es_nil) (B.d 2 _ rfl) rfl (r_comes B hl hs)
    refine ⟨x, (w_off e1).trans ?_⟩
    simp only [loopR, set_self hl]
  | m + 1, M + 1, t, p, b, h, x, hl, h1, h2 => by
    have e1 : ev P (run P (n + 1)) (.meth 2 (.var 0) (.cons (.cst (.str sg)) .nil)) [some (.ref l), some t, x] h = some (.bl (comesP s p sg), h) := e_meth (e_var rfl) (ins_rd hl) (es_cons rfl es_nil) (B.d 2 _ rfl) rfl (r_comes B hl hs)
    cases c0 : comesP s p sg with
    | false =>
      rw [c0] at e1
      refine ⟨x, (w_off e1).trans ?_⟩
      simp only [loopR, c0, set_self hl]
    | true =>
      rw [c0] at e1
      have hp := comes_lt c0
      have hl2 := set_at hl (rd s ls (p + 1) o b)
      have hl3 := set_at hl2 (rd s ls (sub (p + 1) b).2.1 o (sub (p + 1) b).2.2)
      have e2 : exs P (run P (n + 1)) (.cons (.asg (.nm 2) (.meth 3 (.var 0) .nil)) (.cons (.asg (.nm 1) (.tup (.cons (.var 2) (.cons (.var 1) (.cons (.meth f (.var 0) .nil) .nil))))) .nil)) [some (.ref l), some t, x] h
          = some (.nx [some (.ref l), some (.tup [.str [s.getD p 0], t, (sub (p + 1) b).1]), some (.str [s.getD p 0])] ((h.set l (rd s ls (p + 1) o b)).set l (rd s ls (sub (p + 1) b).2.1 o (sub (p + 1) b).2.2))) := by
        refine (exs_nx (x_asg (e_meth (e_var rfl) (ins_rd hl) es_nil (B.d 3 _ rfl) rfl (r_take B hl hs hp)) rfl)).trans ?_
        exact (exs_nx (x_asg (e_tup (es_cons (e_var rfl) (es_cons (e_var rfl) (es_cons (e_meth (e_var rfl) (ins_rd hl2) es_nil hd hc (S _ _ _ _ hl2)) es_nil)))) rfl)).trans rfl
      obtain ⟨y, ih⟩ := walk_loop B hs hd hc S u m M (.tup [.str [s.getD p 0], t, (sub (p + 1) b).1]) (sub (p + 1) b).2.1 (sub (p + 1) b).2.2 _ (some (.str [s.getD p 0])) hl3 (by have := u (p + 1) b; omega) (by omega)
      refine ⟨y, (w_on e1 e2).trans (ih.trans ?_)⟩
      simp only [loopR, c0, set_set]
theorem walk_row (B : Bs P) (hs : s.length ≤ 1000) {sg : List Nat} {f : Nat} {sub : Nat → Bool → R} {dd : DefI} (hd : P.defs[f]? = some dd) (hc : dd.cls = some 0) (S : Sp P s ls (n + 1) f o sub) (u : Up sub) {i : Nat}
    (hi : P.defs[i]? = some ⟨.meth, some 0, 3, 1, .clo, (.cons (.asg (.nm 1) (.meth f (.var 0) .nil)) (.cons (.while (.meth 2 (.var 0) (.cons (.cst (.str sg)) .nil)) (.cons (.asg (.nm 2) (.meth 3 (.var 0) .nil)) (.cons (.asg (.nm 1) (.tup (.cons (.var 2) (.cons (.var 1) (.cons (.meth f (.var 0) .nil) .nil))))) .nil))) (.cons (.ret (.var 1)) .nil)))⟩) :
    Sp P s ls (n + 2) i o (rowR s sg sub) := fun h l p b hl => by
  refine (run_ret hi rfl ?_).trans (back_same (by simp))
  have hl2 := set_at hl (rd s ls (sub p b).2.1 o (sub p b).2.2)
  refine (exs_nx (x_asg (e_meth (e_var rfl) (ins_rd hl) es_nil hd hc (S _ _ _ _ hl)) rfl)).trans ?_
  obtain ⟨y, e⟩ := walk_loop B hs hd hc S u s.length 1000000 (sub p b).1 (sub p b).2.1 (sub p b).2.2 _ none hl2 (by omega) (by omega)
  refine (exs_nx (s := .while _ _) e).trans ?_
  refine (exs_rt (x_ret (e_var rfl))).trans ?_
  rw [set_set]
  rfl
theorem walk_word (B : Bs P) (hs : s.length ≤ 1000) : ∀ (m M : Nat) (w : List Nat) (p : Nat) (h : Hh), h[l]? = some (rd s ls p o b) → s.length ≤ p + m → p ≤ s.length → w.length ≤ p → m < M →
    whileLoop (ev P (run P (n + 1)) (.meth 2 (.var 0) (.cons (.glo 5) .nil))) (exs P (run P (n + 1)) (.cons (.asg (.nm 1) (.bin .add (.var 1) (.meth 3 (.var 0) .nil))) .nil)) M [some (.ref l), some (.str w)] h
      = some (.nx [some (.ref l), some (.str (wordR s m w p).1)] (h.set l (rd s ls (wordR s m w p).2 o b)))
  | m, 0, w, p, h, hl, h1, h3, h4, h2 => absurd h2 (Nat.not_lt_zero _)
  | 0, M + 1, w, p, h, hl, h1, h3, h4, h2 => by
    have c0 : comesP s p digits = false := by
      cases e : comesP s p digits with
      | false => rfl
      | true => have := comes_lt e; omega
    have e1 : ev P (run P (n + 1)) (.meth 2 (.var 0) (.cons (.glo 5) .nil)) [some (.ref l), some (.str w)] h = some (.bl (comesP s p digits), h) := e_meth (e_var rfl) (ins_rd hl) (es_cons (e_glo (B.c 5 _ rfl)) es_nil) (B.d 2 _ rfl) rfl (r_comes B hl hs)
    rw [c0] at e1
    refine (w_off e1).trans ?_
    simp only [wordR, set_self hl]
  | m + 1, M + 1, w, p, h, hl, h1, h3, h4, h2 => by
    have e1 : ev P (run P (n + 1)) (.meth 2 (.var 0) (.cons (.glo 5) .nil)) [some (.ref l), some (.str w)] h = some (.bl (comesP s p digits), h) := e_meth (e_var rfl) (ins_rd hl) (es_cons (e_glo (B.c 5 _ rfl)) es_nil) (B.d 2 _ rfl) rfl (r_comes B hl hs)
    cases c0 : comesP s p digits with
    | false =>
      rw [c0] at e1
      refine (w_off e1).trans ?_
      simp only [wordR, c0, set_self hl]
    | true =>
      rw [c0] at e1
      have hp := comes_lt c0
      have hl2 := set_at hl (rd s ls (p + 1) o b)
      have e2 : exs P (run P (n + 1)) (.cons (.asg (.nm 1) (.bin .add (.var 1) (.meth 3 (.var 0) .nil))) .nil) [some (.ref l), some (.str w)] h
          = some (.nx [some (.ref l), some (.str (w ++ [s.getD p 0]))] (h.set l (rd s ls (p + 1) o b))) :=
        (exs_nx (x_asg (e_bin (e_var rfl) (e_meth (e_var rfl) (ins_rd hl) es_nil (B.d 3 _ rfl) rfl (r_take B hl hs hp)) (o_addS (Nat.le_of_lt (lim_big (by simp only [List.length_cons, List.length_nil]; omega))))) rfl)).trans rfl
      have ih := walk_word B hs m M (w ++ [s.getD p 0]) (p + 1) _ hl2 (by omega) (by omega) (by simp; omega) (by omega)
      refine (w_on e1 e2).trans (ih.trans ?_)
      simp only [wordR, c0, set_set]
theorem word_len : ∀ (m : Nat) (w : List Nat) (p : Nat), p ≤ s.length → (wordR s m w p).1.length + p = w.length + (wordR s m w p).2 ∧ (wordR s m w p).2 ≤ s.length
  | 0, w, p, hp => ⟨by simp [wordR], hp⟩
  | m + 1, w, p, hp => by
    unfold wordR
    cases c0 : comesP s p digits with
    | false => exact ⟨rfl, hp⟩
    | true =>
      have := word_len m (w ++ [s.getD p 0]) (p + 1) (comes_lt c0)
      simp only [List.length_append, List.length_cons, List.length_nil] at this
      exact ⟨by show (wordR s m (w ++ [s.getD p 0]) (p + 1)).1.length + p = w.length + (wordR s m (w ++ [s.getD p 0]) (p + 1)).2; omega, this.2⟩
theorem word_dig : ∀ (m : Nat) (w : List Nat) (p : Nat), w.all isDig = true → (wordR s m w p).1.all isDig = true
  | 0, w, p, h => h
  | m + 1, w, p, h => by
    unfold wordR
    cases c0 : comesP s p digits with
    | false => exact h
    | true =>
      refine word_dig m _ _ ?_
      rw [List.all_append, h]
      have hp := comes_lt c0
      unfold comesP at c0
      rw [List.getElem?_eq_getElem hp] at c0
      have c0 : digits.contains s[p] = true := c0
      rw [getD_at hp]
      simp only [digits, List.contains_cons, Bool.or_eq_true, beq_iff_eq, List.contains_nil, Bool.false_eq_true, or_false] at c0
      simp only [List.all_cons, List.all_nil, Bool.and_true, Bool.true_and, isDig, Bool.and_eq_true, decide_eq_true_eq]
      omega
/-- read_number, where a figure comes -/
theorem r_num (B : Bs P) (hs : s.length ≤ 600) (hl : h[l]? = some (rd s ls p o b)) (c : comesP s p digits = true) : run P (n + 2) 8 [.ref l] h = some ((numR s p b).1, h.set l (rd s ls (numR s p b).2.1 o (numR s p b).2.2)) := by
  have hp := comes_lt c
  have hw := walk_word (n := n) B (by omega) s.length 1000000 [] p h hl (by omega) (by omega) (Nat.zero_le _) (by omega)
  obtain ⟨w1, w2⟩ := word_len (s := s) s.length [] p (Nat.le_of_lt hp)
  have w3 := word_dig (s := s) s.length [] p rfl
  have w4 : 0 < (wordR s s.length [] p).1.length := by
    have : ∃ m, s.length = m + 1 := ⟨s.length - 1, by omega⟩
    obtain ⟨m, hm⟩ := this
    rw [hm]
    unfold wordR
    rw [c]
    have := word_len (s := s) m ([] ++ [s.getD p 0]) (p + 1) hp
    have u := word_up (s := s) m ([] ++ [s.getD p 0]) (p + 1)
    simp only [List.length_append, List.length_cons, List.length_nil] at this
    show 0 < (wordR s m ([] ++ [s.getD p 0]) (p + 1)).1.length
    omega
  unfold numR
  generalize wordR s s.length [] p = W at hw w1 w2 w3 w4
  obtain ⟨w, q⟩ := W
  dsimp only at hw w1 w2 w3 w4 ⊢
  simp only [List.length_nil, Nat.zero_add] at w1
  have hl2 := set_at hl (rd s ls q o b)
  have lw : w.length ≤ 600 := by omega
  refine (run_ret (h1 := if 3 < w.length ∨ (w.getD 0 0 = 48 ∧ w ≠ [48]) then h.set l (rd s ls q o true) else h.set l (rd s ls q o b)) (r := if 3 < w.length ∨ (w.getD 0 0 = 48 ∧ w ≠ [48]) then nought else .tup [.str [110, 117, 109, 98, 101, 114], .int (digV 0 w)]) (B.d 8 _ rfl) rfl ?_).trans ?_
  · refine (exs_nx (x_asg rfl rfl)).trans ?_
    refine (exs_nx (s := .while _ _) hw).trans ?_
    have c1 : ev P (run P (n + 1)) (.cmp .gt (.bi .len (.cons (.var 1) .nil)) (.glo 4)) [some (.ref l), some (.str w)] (h.set l (rd s ls q o b)) = some (.bl (decide ((3 : Int) < w.length)), h.set l (rd s ls q o b)) := e_cmp (e_bi (es_cons (e_var rfl) es_nil) (len_str (by omega))) (e_glo (B.c 4 _ rfl)) o_gt
    have c2 : ev P (run P (n + 1)) (.cmp .eq (.idx (.var 1) (.cst (.int 0))) (.cst (.str [48]))) [some (.ref l), some (.str w)] (h.set l (rd s ls q o b)) = some (.bl ([w.getD 0 0] == [48]), h.set l (rd s ls q o b)) := e_cmp (e_idx (e_var rfl) rfl (idx_str (p := 0) (by omega) w4)) rfl rfl
    have c3 : ev P (run P (n + 1)) (.cmp .ne (.var 1) (.cst (.str [48]))) [some (.ref l), some (.str w)] (h.set l (rd s ls q o b)) = some (.bl (!(w == [48])), h.set l (rd s ls q o b)) := e_cmp (e_var rfl) rfl rfl
    have cc : ev P (run P (n + 1)) (.orV (.cmp .gt (.bi .len (.cons (.var 1) .nil)) (.glo 4)) (.andV (.cmp .eq (.idx (.var 1) (.cst (.int 0))) (.cst (.str [48]))) (.cmp .ne (.var 1) (.cst (.str [48]))))) [some (.ref l), some (.str w)] (h.set l (rd s ls q o b)) = some (.bl (decide (3 < w.length ∨ (w.getD 0 0 = 48 ∧ w ≠ [48]))), h.set l (rd s ls q o b)) := by
      by_cases g1 : 3 < w.length
      · rw [decide_eq_true (by omega)] at c1
        rw [e_orT c1, decide_eq_true (.inl g1)]
      · rw [decide_eq_false (by omega)] at c1
        rw [e_orF c1]
        by_cases g2 : w.getD 0 0 = 48
        · rw [show ([w.getD 0 0] == [48]) = true by rw [g2]; rfl] at c2
          rw [e_andT c2, c3]
          by_cases g3 : w = [48]
          · rw [decide_eq_false (by rintro (q | ⟨_, q⟩); exact g1 q; exact q g3), g3]; rfl
          · rw [decide_eq_true (.inr ⟨g2, g3⟩)]
            have : (w == [48]) = false := by simpa using g3
            rw [this]; rfl
        · rw [show ([w.getD 0 0] == [48]) = false by simpa using g2] at c2
          rw [e_andF c2, decide_eq_false (by rintro (q | ⟨q, _⟩); exact g1 q; exact g2 q)]
    by_cases g : 3 < w.length ∨ (w.getD 0 0 = 48 ∧ w ≠ [48])
    · rw [decide_eq_true g] at cc
      rw [if_pos g, if_pos g]
      refine exs_rt ((x_iteT cc).trans (exs_rt (x_ret ?_)))
      have := e_meth (P := P) (Φ := run P (n + 1)) (δ := [some (.ref l), some (.str w)]) (f := 4) (es := .nil) (a := .var 0) (e_var rfl) (ins_rd hl2) es_nil (B.d 4 _ rfl) rfl (r_fail (n := n) B hl2)
      rw [set_set] at this
      exact this
    · rw [decide_eq_false g] at cc
      rw [if_neg g, if_neg g]
      refine (exs_nx (x_iteF cc)).trans (exs_rt (x_ret (e_tup (es_cons (e_glo (B.c 6 _ rfl)) (es_cons (e_bi (es_cons (e_var rfl) es_nil) ?_) es_nil)))))
      show (if w.length ≤ 640 && w.all isDig && decide (0 < w.length) then some (D.int (digV 0 w)) else none) = _
      rw [if_pos (by rw [w3, decide_eq_true w4, decide_eq_true (show w.length ≤ 640 by omega)]; rfl)]
  · by_cases g : 3 < w.length ∨ (w.getD 0 0 = 48 ∧ w ≠ [48])
    · rw [if_pos g, if_pos g, if_pos g]; exact back_same (by simp)
    · rw [if_neg g, if_neg g, if_neg g]; exact back_same (by simp)
end
end GB

namespace GB
open VI
section
variable {P : Pg} {n l : Nat} {h : Hh} {s ls : List Nat} {p o : Nat} {b : Bool}
theorem e_comes (B : Bs P) (hs : s.length ≤ 1000) {δ : Ev} {a : E} {sg : List Nat} (h0 : look δ 0 = some (.ref l)) (hl : h[l]? = some (rd s ls p o b)) (ha : ev P (run P (n + 1)) a δ h = some (.str sg, h)) : ev P (run P (n + 1)) (.meth 2 (.var 0) (.cons a .nil)) δ h = some (.bl (comesP s p sg), h) :=
  e_meth (e_var h0) (ins_rd hl) (es_cons ha es_nil) (B.d 2 _ rfl) rfl (r_comes B hl hs)
/-- read_factor -/
theorem r_fac (B : Bs P) (hs : s.length ≤ 600) (inner : Option (Nat → Bool → R)) (ho : inner = none ↔ o = 6) (S : ∀ f, inner = some f → Sp P s ls (n + 2) 5 (o + 1) f) : Sp P s ls (n + 3) 7 o (facR s ls inner) := fun h l p b hl => by
  have hs' : s.length ≤ 1000 := by omega
  have c1 : ev P (run P (n + 2)) (.meth 2 (.var 0) (.cons (.glo 5) .nil)) [some (.ref l), none] h = some (.bl (comesP s p digits), h) := e_comes B hs' rfl hl (e_glo (B.c 5 _ rfl))
  have c2 : ev P (run P (n + 2)) (.meth 2 (.var 0) (.cons (.fld 0 (.var 0) 1) .nil)) [some (.ref l), none] h = some (.bl (comesP s p ls), h) := e_comes B hs' rfl hl (e_fld (e_var rfl) (ins_rd hl) rfl)
  have c3 : ev P (run P (n + 2)) (.meth 2 (.var 0) (.cons (.cst (.str [40])) .nil)) [some (.ref l), none] h = some (.bl (comesP s p [40]), h) := e_comes B hs' rfl hl rfl
  have c4 : ev P (run P (n + 2)) (.cmp .eq (.fld 0 (.var 0) 3) (.glo 3)) [some (.ref l), none] h = some (.bl ((o : Int) == 6), h) := e_cmp (e_fld (e_var rfl) (ins_rd hl) rfl) (e_glo (B.c 3 _ rfl)) o_eq
  unfold facR
  cases k1 : comesP s p digits with
  | true =>
    rw [k1] at c1
    refine (run_ret (B.d 7 _ rfl) rfl (exs_rt ((x_iteT c1).trans (exs_rt (x_ret (e_meth (e_var rfl) (ins_rd hl) es_nil (B.d 8 _ rfl) rfl (r_num B hs hl k1))))))).trans (back_same (by simp))
  | false =>
    rw [k1] at c1
    cases k2 : comesP s p ls with
    | true =>
      rw [k2] at c2
      exact (run_ret (B.d 7 _ rfl) rfl ((exs_nx (x_iteF c1)).trans (exs_rt ((x_iteT c2).trans (exs_rt (x_ret (e_tup (es_cons (e_glo (B.c 7 _ rfl)) (es_cons (e_meth (e_var rfl) (ins_rd hl) es_nil (B.d 3 _ rfl) rfl (r_take B hl hs' (comes_lt k2))) es_nil))))))))).trans (back_same (by simp))
    | false =>
      rw [k2] at c2
      have bad : ev P (run P (n + 2)) (.orV (.notV (.meth 2 (.var 0) (.cons (.cst (.str [40])) .nil))) (.cmp .eq (.fld 0 (.var 0) 3) (.glo 3))) [some (.ref l), none] h = some (.bl true, h) → run P (n + 3) 7 [.ref l] h = some (nought, h.set l (rd s ls p o true)) := fun c =>
        (run_ret (B.d 7 _ rfl) rfl ((exs_nx (x_iteF c1)).trans ((exs_nx (x_iteF c2)).trans (exs_rt ((x_iteT c).trans (exs_rt (x_ret (e_meth (e_var rfl) (ins_rd hl) es_nil (B.d 4 _ rfl) rfl (r_fail B hl))))))))).trans (back_same (by simp))
      cases k3 : comesP s p [40] with
      | false =>
        rw [k3] at c3
        cases inner <;> exact bad (e_orT (e_not c3))
      | true =>
        rw [k3] at c3
        cases inner with
        | none =>
          have := ho.mp rfl
          subst this
          exact bad ((e_orF (e_not c3)).trans c4)
        | some f =>
          have h6 : o ≠ 6 := fun q => by have := ho.mpr q; cases this
          rw [show ((o : Int) == 6) = false by simp; omega] at c4
          have hp := comes_lt k3
          have S := S f rfl
          let q := f (p + 1) b
          have hl2 := set_at hl (rd s ls (p + 1) o b)
          have hl3 := set_at hl2 (rd s ls (p + 1) (o + 1) b)
          have hl4 := set_at hl3 (rd s ls q.2.1 (o + 1) q.2.2)
          have hl5 := set_at hl4 (rd s ls q.2.1 o q.2.2)
          have start : ∀ (r : D) (h1 : Hh), exs P (run P (n + 2)) (.cons (.ite (.notV (.meth 2 (.var 0) (.cons (.cst (.str [41])) .nil))) (.cons (.ret (.meth 4 (.var 0) .nil)) .nil) .nil) (.cons (.expr (.meth 3 (.var 0) .nil)) (.cons (.ret (.var 1)) .nil))) [some (.ref l), some q.1] (h.set l (rd s ls q.2.1 o q.2.2)) = some (.rt r h1) → h1.length = h.length → run P (n + 3) 7 [.ref l] h = some (r, h1) := fun r h1 e el => by
            refine (run_ret (B.d 7 _ rfl) rfl ((exs_nx (x_iteF c1)).trans ((exs_nx (x_iteF c2)).trans ((exs_nx (x_iteF ((e_orF (e_not c3)).trans c4))).trans ?_)))).trans (back_same el)
            refine (exs_nx (x_expr (e_meth (e_var rfl) (ins_rd hl) es_nil (B.d 3 _ rfl) rfl (r_take B hl hs' hp)))).trans ?_
            refine (exs_nx (x_augF (r := .int ((o : Int) + 1)) (e_var rfl) (ins_rd hl2) rfl rfl o_add (show 5 < 900 by decide))).trans ?_
            refine (exs_nx (x_asg (e_meth (e_var rfl) (ins_rd hl3) es_nil (B.d 5 _ rfl) rfl (S _ _ _ _ hl3)) rfl)).trans ?_
            refine (exs_nx (x_augF (r := .int (((o + 1 : Nat) : Int) - 1)) (e_var rfl) (ins_rd hl4) rfl rfl o_sub (show 5 < 900 by decide))).trans ?_
            rw [show (((o + 1 : Nat) : Int) - 1) = (o : Int) by omega]
            have : ((((h.set l (rd s ls (p + 1) o b)).set l (rd s ls (p + 1) (o + 1) b)).set l (rd s ls q.2.1 (o + 1) q.2.2)).set l (.ins 0 (fput [(0, .str s), (1, .str ls), (2, .int q.2.1), (3, .int ((o + 1 : Nat) : Int)), (4, .bl q.2.2)] 3 (.int (o : Int))))) = h.set l (rd s ls q.2.1 o q.2.2) := by
              rw [set_set, set_set, set_set]; rfl
            refine Eq.trans (congrArg (exs P (run P (n + 2)) _ _) this) e
          have hl6 := set_at hl (rd s ls q.2.1 o q.2.2)
          have c5 : ev P (run P (n + 2)) (.meth 2 (.var 0) (.cons (.cst (.str [41])) .nil)) [some (.ref l), some q.1] (h.set l (rd s ls q.2.1 o q.2.2)) = some (.bl (comesP s q.2.1 [41]), h.set l (rd s ls q.2.1 o q.2.2)) := e_comes B hs' rfl hl6 rfl
          show run P (n + 3) 7 [.ref l] h = some ((match comesP s q.2.1 [41] with
            | true => (q.1, q.2.1 + 1, q.2.2)
            | false => (nought, q.2.1, true)).1, h.set l (rd s ls (match comesP s q.2.1 [41] with
            | true => (q.1, q.2.1 + 1, q.2.2)
            | false => (nought, q.2.1, true)).2.1 o (match comesP s q.2.1 [41] with
            | true => (q.1, q.2.1 + 1, q.2.2)
            | false => (nought, q.2.1, true)).2.2))
          cases k5 : comesP s q.2.1 [41] with
          | true =>
            rw [k5] at c5
            refine start _ _ ((exs_nx (x_iteF (e_not c5))).trans ((exs_nx (x_expr (e_meth (e_var rfl) (ins_rd hl6) es_nil (B.d 3 _ rfl) rfl (r_take B hl6 hs' (comes_lt k5))))).trans ((exs_rt (x_ret (e_var rfl))).trans ?_))) (by simp)
            rw [set_set]
          | false =>
            rw [k5] at c5
            refine start _ _ ((exs_rt ((x_iteT (e_not c5)).trans (exs_rt (x_ret (e_meth (e_var rfl) (ins_rd hl6) es_nil (B.d 4 _ rfl) rfl (r_fail B hl6)))))).trans ?_) (by simp)
            rw [set_set]
/-- read_sum -/
theorem r_sum (B : Bs P) (hs : s.length ≤ 600) : ∀ (k : Nat) {o n : Nat}, o + k = 6 → Sp P s ls (3 * k + n + 5) 5 o (sumR s ls k)
  | 0, o, n, hk => by
    have F : Sp P s ls (n + 3) 7 o (facR s ls none) := r_fac B hs none ⟨fun _ => by omega, fun _ => rfl⟩ fun f q => nomatch q
    have u : Up (facR s ls none) := fac_up fun f q => nomatch q
    have T := walk_row B (show s.length ≤ 1000 by omega) (B.d 7 _ rfl) rfl F u (i := 6) (B.d 6 _ rfl)
    have U := walk_row B (show s.length ≤ 1000 by omega) (B.d 6 _ rfl) rfl T (row_up u) (i := 5) (B.d 5 _ rfl)
    rw [show 3 * 0 + n + 5 = n + 3 + 2 by omega]
    exact U
  | k + 1, o, n, hk => by
    have I := r_sum B hs k (o := o + 1) (n := n) (by omega)
    have F : Sp P s ls (3 * k + n + 3 + 3) 7 o (facR s ls (some (sumR s ls k))) := r_fac B hs (some (sumR s ls k)) ⟨(fun q => nomatch q), fun q => by omega⟩ fun f q => by
      cases q
      exact I
    have u : Up (facR s ls (some (sumR s ls k))) := fac_up fun f q => by cases q; exact sum_up k
    have T := walk_row B (show s.length ≤ 1000 by omega) (B.d 7 _ rfl) rfl F u (i := 6) (B.d 6 _ rfl)
    have U := walk_row B (show s.length ≤ 1000 by omega) (B.d 6 _ rfl) rfl T (row_up u) (i := 5) (B.d 5 _ rfl)
    rw [show 3 * (k + 1) + n + 5 = 3 * k + n + 3 + 3 + 2 by omega]
    exact U
/-! ### trees name no cell -/
def Fr (d : D) : Prop := ∀ n, D.low n d = true
def FrR (g : Nat → Bool → R) : Prop := ∀ p b, Fr (g p b).1
theorem fr_nought : Fr nought := fun n => rfl
theorem loop_fr {sg : List Nat} {sub : Nat → Bool → R} (u : FrR sub) : ∀ (m : Nat) (t : D) (p : Nat) (b : Bool), Fr t → Fr (loopR s sg sub m t p b).1
  | 0, t, p, b, ht => ht
  | m + 1, t, p, b, ht => by
    unfold loopR
    split
    · refine loop_fr u m _ _ _ fun n => ?_
      simp [D.low, D.lows, ht n, u (p + 1) b n]
    · exact ht
theorem row_fr {sg : List Nat} {sub : Nat → Bool → R} (u : FrR sub) : FrR (rowR s sg sub) := fun p b => loop_fr u _ _ _ _ (u p b)
theorem num_fr : FrR (numR s) := fun p b n => by
  unfold numR
  dsimp only
  split <;> rfl
theorem fac_fr {inner : Option (Nat → Bool → R)} (u : ∀ f, inner = some f → FrR f) : FrR (facR s ls inner) := fun p b => by
  unfold facR
  split
  · exact num_fr p b
  · split
    · exact fun n => rfl
    · cases inner with
      | none => cases comesP s p [40] <;> exact fr_nought
      | some f =>
        cases comesP s p [40] with
        | false => exact fr_nought
        | true =>
          show Fr (match comesP s (f (p + 1) b).2.1 [41] with
            | true => ((f (p + 1) b).1, (f (p + 1) b).2.1 + 1, (f (p + 1) b).2.2)
            | false => (nought, (f (p + 1) b).2.1, true)).1
          split
          · exact u f rfl (p + 1) b
          · exact fr_nought
theorem sum_fr : ∀ k : Nat, FrR (sumR s ls k)
  | 0 => row_fr (row_fr (fac_fr fun f q => nomatch q))
  | k + 1 => row_fr (row_fr (fac_fr fun f q => by cases q; exact sum_fr k))
theorem rule_fr : Fr (ruleR s ls) := fun n => by
  unfold ruleR
  split
  · dsimp only
    split
    · rfl
    · exact sum_fr 6 0 false n
  · rfl
theorem back_cut {d : D} {h t : Hh} (c : Cl h) (f : Fr d) : back .clo h.length d (h ++ t) = some (d, h) := by
  unfold back
  by_cases e : (h ++ t).length = h.length
  · rw [if_pos e]
    have : t = [] := by
      rw [List.length_append] at e
      exact List.eq_nil_of_length_eq_zero (by omega)
    subst this
    rw [List.append_nil]
  · rw [if_neg e, if_pos (f _), cut_app c]
    rfl
theorem app_at (h : Hh) (x : Ob) : (h ++ [x])[h.length]? = some x := by simp
theorem app_set (h : Hh) (x y : Ob) : (h ++ [x]).set h.length y = h ++ [y] := by simp
theorem ins_app {cc : Nat} {fs : List (Nat × D)} : insAt (h ++ [.ins cc fs]) (.ref h.length) = some (h.length, cc, fs) := by
  simp only [insAt, app_at]
/-- RuleReader(line, letters) -/
theorem r_reader (B : Bs P) : run P (n + 1) 1 [.ref h.length, .str s, .str ls] (h ++ [.ins 0 []]) = some (.non, h ++ [rd s ls 0 0 false]) := by
  refine (run_end (h1 := h ++ [rd s ls 0 0 false]) (δ := [some (.ref h.length), some (.str s), some (.str ls)]) (B.d 1 _ rfl) rfl ?_).trans (back_same (by simp))
  refine (exs_nx (x_asgF (e_var rfl) (e_var rfl) ins_app (by show 0 < 900; decide))).trans ?_
  rw [app_set]
  refine (exs_nx (x_asgF (e_var rfl) (e_var rfl) ins_app (by show 1 < 900; decide))).trans ?_
  rw [app_set]
  refine (exs_nx (x_asgF (x := .int 0) rfl (e_var rfl) ins_app (by show 2 < 900; decide))).trans ?_
  rw [app_set]
  refine (exs_nx (x_asgF (x := .int 0) rfl (e_var rfl) ins_app (by show 3 < 900; decide))).trans ?_
  rw [app_set]
  refine (exs_nx (x_asgF (x := .bl false) rfl (e_var rfl) ins_app (by show 4 < 900; decide))).trans ?_
  rw [app_set]
  rfl
theorem e_make {δ : Ev} {Φ : Fn} {f c : Nat} {es : EL} {xs : List D} {h1 h2 : Hh} {df : DefI} (hs : evs P Φ es δ h = some (xs, h1)) (hd : P.defs[f]? = some df) (hc : df.cls = some c) (e : Φ f (.ref h1.length :: xs) (h1 ++ [.ins c []]) = some (.non, h2)) : ev P Φ (.make f es) δ h = some (.ref h1.length, h2) := by
  simp only [ev, hs, hd, hc, e, Option.bind_some]
/-- read_rule -/
theorem r_rule (B : Bs P) (c : Cl h) (hs : s.length ≤ 600) : run P (n + 24) 9 [.str s, .str ls] h = some (ruleR s ls, h) := by
  have c0 : ev P (run P (n + 23)) (.notV (.isi (.var 0) .str)) [some (.str s), some (.str ls), none, none] h = some (.bl false, h) := rfl
  have fin : ∀ {d : D} {t : Hh}, d = ruleR s ls → exs P (run P (n + 23)) b9 [some (.str s), some (.str ls), none, none] h = some (.rt d (h ++ t)) → run P (n + 24) 9 [.str s, .str ls] h = some (ruleR s ls, h) := fun {d t} e1 e2 => by
    subst e1
    exact (run_ret (B.d 9 _ rfl) rfl e2).trans (back_cut c rule_fr)
  have ln : ev P (run P (n + 23)) (.bi .len (.cons (.var 0) .nil)) [some (.str s), some (.str ls), none, none] h = some (.int s.length, h) := e_bi (es_cons (e_var rfl) es_nil) (len_str (by omega))
  have c1 : ev P (run P (n + 23)) (.chain .le .le (.cst (.int 1)) (.bi .len (.cons (.var 0) .nil)) (.glo 2)) [some (.str s), some (.str ls), none, none] h = some (.bl (decide (1 ≤ s.length ∧ s.length ≤ 40)), h) := by
    by_cases h1 : 1 ≤ s.length
    · refine (e_chT (a := .cst (.int 1)) rfl ln (by rw [o_le, decide_eq_true (by omega)]) (e_glo (B.c 2 _ rfl)) o_le).trans ?_
      by_cases h2 : s.length ≤ 40
      · rw [decide_eq_true (show (s.length : Int) ≤ 40 by omega), decide_eq_true ⟨h1, h2⟩]
      · rw [decide_eq_false (show ¬ (s.length : Int) ≤ 40 by omega), decide_eq_false fun q => h2 q.2]
    · have : ev P (run P (n + 23)) (.chain .le .le (.cst (.int 1)) (.bi .len (.cons (.var 0) .nil)) (.glo 2)) [some (.str s), some (.str ls), none, none] h = some (.bl false, h) := by
        simp only [ev] at ln ⊢
        simp only [ln, Option.bind_some, o_le, decide_eq_false (show ¬ (1 : Int) ≤ s.length by omega)]
      rw [this, decide_eq_false fun q => h1 q.1]
  by_cases g : 1 ≤ s.length ∧ s.length ≤ 40
  · rw [decide_eq_true g] at c1
    have er : ruleR s ls = if (sumR s ls 6 0 false).2.2 = true ∨ (sumR s ls 6 0 false).2.1 < s.length then .non else (sumR s ls 6 0 false).1 := by
      unfold ruleR
      rw [if_pos g]
    let q := sumR s ls 6 0 false
    have S := r_sum (P := P) (s := s) (ls := ls) B hs 6 (o := 0) (n := n) rfl (h ++ [rd s ls 0 0 false]) h.length 0 false (app_at _ _)
    rw [app_set, show 3 * 6 + n + 5 = n + 23 by omega] at S
    have hl := app_at h (rd s ls q.2.1 0 q.2.2)
    have f4 : ev P (run P (n + 23)) (.fld 0 (.var 2) 4) [some (.str s), some (.str ls), some (.ref h.length), some q.1] (h ++ [rd s ls q.2.1 0 q.2.2]) = some (.bl q.2.2, h ++ [rd s ls q.2.1 0 q.2.2]) := e_fld (e_var rfl) (ins_rd hl) rfl
    have f3 : ev P (run P (n + 23)) (.cmp .lt (.fld 0 (.var 2) 2) (.bi .len (.cons (.var 0) .nil))) [some (.str s), some (.str ls), some (.ref h.length), some q.1] (h ++ [rd s ls q.2.1 0 q.2.2]) = some (.bl (decide ((q.2.1 : Int) < s.length)), h ++ [rd s ls q.2.1 0 q.2.2]) := e_cmp (e_fld (e_var rfl) (ins_rd hl) rfl) (e_bi (es_cons (e_var rfl) es_nil) (len_str (by omega))) o_lt
    have start : ∀ {d : D}, exs P (run P (n + 23)) (.cons (.ite (.orV (.fld 0 (.var 2) 4) (.cmp .lt (.fld 0 (.var 2) 2) (.bi .len (.cons (.var 0) .nil)))) (.cons (.ret (.cst .non)) .nil) .nil) (.cons (.ret (.var 3)) .nil)) [some (.str s), some (.str ls), some (.ref h.length), some q.1] (h ++ [rd s ls q.2.1 0 q.2.2]) = some (.rt d (h ++ [rd s ls q.2.1 0 q.2.2])) → exs P (run P (n + 23)) b9 [some (.str s), some (.str ls), none, none] h = some (.rt d (h ++ [rd s ls q.2.1 0 q.2.2])) := fun {d} e => by
      refine (exs_nx (x_iteF ((e_orF c0).trans (e_not c1)))).trans ?_
      refine (exs_nx (x_asg (e_make (es_cons (e_var rfl) (es_cons (e_var rfl) es_nil)) (B.d 1 _ rfl) rfl (r_reader B)) rfl)).trans ?_
      refine (exs_nx (x_asg (e_meth (e_var rfl) (ins_rd (app_at h (rd s ls 0 0 false))) es_nil (B.d 5 _ rfl) rfl S) rfl)).trans ?_
      exact e
    by_cases g1 : q.2.2 = true
    · have f4 := f4.trans (show some (D.bl q.2.2, h ++ [rd s ls q.2.1 0 q.2.2]) = some (D.bl true, h ++ [rd s ls q.2.1 0 q.2.2]) by rw [g1])
      exact fin (by rw [er, if_pos (.inl g1)]) (start (exs_rt ((x_iteT (e_orT f4)).trans (exs_rt (x_ret rfl)))))
    · rw [Bool.not_eq_true] at g1
      have f4 := f4.trans (show some (D.bl q.2.2, h ++ [rd s ls q.2.1 0 q.2.2]) = some (D.bl false, h ++ [rd s ls q.2.1 0 q.2.2]) by rw [g1])
      by_cases g2 : q.2.1 < s.length
      · rw [decide_eq_true (by omega)] at f3
        exact fin (by rw [er, if_pos (.inr g2)]) (start (exs_rt ((x_iteT ((e_orF f4).trans f3)).trans (exs_rt (x_ret rfl)))))
      · rw [decide_eq_false (by omega)] at f3
        have g1' : ¬ q.2.2 = true := by rw [g1]; exact Bool.false_ne_true
        refine fin (d := q.1) (by rw [er, if_neg (by rintro (z | z); exact g1' z; exact g2 z)]) (start ((exs_nx (x_iteF ((e_orF f4).trans f3))).trans (exs_rt (x_ret (e_var rfl)))))
  · rw [decide_eq_false g] at c1
    refine fin (d := .non) (t := []) (by unfold ruleR; rw [if_neg g]) ?_
    rw [List.append_nil]
    exact exs_rt ((x_iteT ((e_orF c0).trans (e_not c1))).trans (exs_rt (x_ret rfl)))
end
end GB

/-! tasks and graphs -/
namespace GB
open VI
structure Tk where
  nm : List Nat
  size : Nat
  feeds : List (List Nat)
  rounds : Nat
  rule : List Nat
def Tk.d (t : Tk) : D := .tup [.str t.nm, .int t.size, .tup (t.feeds.map D.str), .int t.rounds, .str t.rule]
def letters (k : Nat) : List Nat := 115 :: [97, 98, 99].take k
def az : List Nat := [97, 98, 99, 100, 101, 102, 103, 104, 105, 106, 107, 108, 109, 110, 111, 112, 113, 114, 115, 116, 117, 118, 119, 120, 121, 122]
def isName (s : List Nat) : Prop := 1 ≤ s.length ∧ s.length ≤ 8 ∧ s.all (fun c => az.contains c) = true
section
variable {P : Pg} {n l : Nat} {h : Hh}
theorem fr_of_flat {d : D} (hd : flat d = true) : Fr d := fun n => by cases d <;> first | rfl | (simp [flat] at hd)
theorem rb {d : D} : back .clo h.length d h = some (d, h) := back_same rfl
/-- letters_of -/
theorem r_letters (B : Bs P) {k : Nat} : run P (n + 1) 0 [.int k] h = some (.str (letters k), h) := by
  refine (run_ret (B.d 0 _ rfl) rfl (exs_rt (x_ret (e_bin (y := .str ([97, 98, 99].take k)) (e_glo (B.c 0 _ rfl)) ?_ ?_)))).trans rb
  · have e1 : ev P (run P n) (.glo 1) [some (.int k)] h = some (.str [97, 98, 99], h) := e_glo (B.c 1 _ rfl)
    have e2 : ev P (run P n) (.var 0) [some (.int k)] h = some (.int k, h) := e_var rfl
    simp only [ev] at e1 e2 ⊢
    simp only [e1, e2, Option.bind_some]
    show ((slF h (.str [97, 98, 99]) none (some (k : Int))).map fun d => (d, h)) = _
    have : slF h (.str [97, 98, 99]) none (some (k : Int)) = some (.str ([97, 98, 99].take k)) := by
      show (if 3 ≤ lim then some (D.str (cutL [97, 98, 99] 0 (cutI 3 (k : Int)))) else none) = _
      rw [if_pos (by unfold lim; omega)]
      have : cutI 3 (k : Int) = min k 3 := by
        unfold cutI
        rw [if_neg (by omega)]
        simp
      rw [this]
      unfold cutL
      simp only [List.drop_zero, Nat.sub_zero]
      have : ([97, 98, 99] : List Nat).take (min k 3) = [97, 98, 99].take k := by
        by_cases hk : k ≤ 3
        · rw [Nat.min_eq_left hk]
        · rw [Nat.min_eq_right (by omega), List.take_of_length_le (by simp), List.take_of_length_le (by simp; omega)]
      rw [this]
    rw [this]
    rfl
  · exact o_addS (by
      have : ([97, 98, 99].take k : List Nat).length ≤ 3 := by rw [List.length_take]; exact Nat.min_le_right _ _
      simp only [List.length_cons, List.length_nil]
      unfold lim; omega)
/-- is_integer, is_between -/
theorem r_int (B : Bs P) {i : Int} : run P (n + 1) 11 [.int i] h = some (.bl true, h) :=
  (run_ret (B.d 11 _ rfl) rfl (exs_rt (x_ret ((e_andT (show ev P (run P n) (.isi (.var 0) .int) [some (.int i)] h = some (.bl true, h) from rfl)).trans rfl)))).trans rb
theorem e_chF {Φ : Fn} {δ : Ev} {h1 h2 : Hh} {a b c : E} {x y : D} {o o' : Op} (ha : ev P Φ a δ h = some (x, h1)) (hb : ev P Φ b δ h1 = some (y, h2)) (e : op2 h2 o x y = some (.bl false)) : ev P Φ (.chain o o' a b c) δ h = some (.bl false, h2) := by simp only [ev, ha, hb, e, Option.bind_some]
theorem r_between (B : Bs P) {i a b : Int} : run P (n + 2) 12 [.int i, .int a, .int b] h = some (.bl (decide (a ≤ i ∧ i ≤ b)), h) := by
  refine (run_ret (B.d 12 _ rfl) rfl (exs_rt (x_ret ((e_andT (e_call (es_cons (e_var rfl) es_nil) (r_int B))).trans ?_)))).trans rb
  by_cases h1 : a ≤ i
  · refine (e_chT (e_var rfl) (e_var rfl) (by rw [o_le, decide_eq_true h1]) (e_var rfl) o_le).trans ?_
    by_cases h2 : i ≤ b
    · rw [decide_eq_true h2, decide_eq_true ⟨h1, h2⟩]
    · rw [decide_eq_false h2, decide_eq_false fun q => h2 q.2]
  · refine (e_chF (e_var rfl) (e_var rfl) (by rw [o_le, decide_eq_false h1])).trans ?_
    rw [decide_eq_false fun q => h1 q.1]
/-! ### is_name -/
theorem boolsOf_map {α : Type} (f : α → Bool) : ∀ xs : List α, boolsOf (xs.map fun x => D.bl (f x)) = some (xs.map f)
  | [] => rfl
  | x :: xs => by simp [boolsOf, boolsOf_map f xs]
/-- a comprehension over items, each turn told -/
theorem lc_fun {α : Type} {tg : Tg} {c e : Ev → Hh → Option (D × Hh)} {δ : Ev} (u : α → D) (g : α → D) : ∀ {xs : List α}, (∀ x ∈ xs, ∃ δ1, put tg (u x) δ = some δ1 ∧ c δ1 h = some (.bl true, h) ∧ e δ1 h = some (g x, h)) → lcLoop tg c e δ (xs.map u) h = some (xs.map g, h)
  | [], _ => rfl
  | x :: xs, H => by
    obtain ⟨δ1, h1, h2, h3⟩ := H x List.mem_cons_self
    have ih := lc_fun (tg := tg) (c := c) (e := e) (δ := δ) u g (xs := xs) fun y hy => H y (List.mem_cons_of_mem _ hy)
    simp [lcLoop, h1, h2, h3, ih]
theorem e_allL {Φ : Fn} {δ : Ev} {a : E} {bs : List Bool} {h1 : Hh} (ha : ev P Φ a δ h = some (.lst (bs.map D.bl), h1)) : ev P Φ (.bi .all (.cons a .nil)) δ h = some (.bl (bs.all id), h1) := by
  refine e_bi (es_cons ha es_nil) ?_
  show ((lstOf h1 (.lst (bs.map D.bl))).bind fun xs => (boolsOf xs).map fun bs => D.bl (bs.all id)) = _
  have := boolsOf_map (id : Bool → Bool) bs
  simp only [id, List.map_id'] at this
  show ((boolsOf (bs.map D.bl)).map fun bs => D.bl (bs.all id)) = _
  rw [this, List.map_id]
  rfl
theorem r_name (B : Bs P) {s : List Nat} (hn : isName s) : run P (n + 1) 13 [.str s] h = some (.bl true, h) := by
  obtain ⟨h1, h2, h3⟩ := hn
  have c0 : ev P (run P n) (.notV (.isi (.var 0) .str)) [some (.str s), none] h = some (.bl false, h) := rfl
  have ln : ev P (run P n) (.bi .len (.cons (.var 0) .nil)) [some (.str s), none] h = some (.int s.length, h) := e_bi (es_cons (e_var rfl) es_nil) (len_str (by omega))
  have c1 : ev P (run P n) (.chain .le .le (.cst (.int 1)) (.bi .len (.cons (.var 0) .nil)) (.glo 10)) [some (.str s), none] h = some (.bl true, h) := by
    refine (e_chT (a := .cst (.int 1)) rfl ln (by rw [o_le, decide_eq_true (by omega)]) (e_glo (B.c 10 _ rfl)) o_le).trans ?_
    rw [decide_eq_true (show (s.length : Int) ≤ 8 by omega)]
  refine (run_ret (B.d 13 _ rfl) rfl ((exs_nx (x_iteF ((e_orF c0).trans (e_not c1)))).trans (exs_rt (x_ret ?_)))).trans rb
  have lp := lc_fun (h := h) (tg := .nm 1) (c := ev P (run P n) (.cst (.bl true))) (e := ev P (run P n) (.cmp .inn (.var 1) (.glo 9))) (δ := [some (.str s), none]) (fun c : Nat => D.str [c]) (fun c => D.bl (az.contains c)) (xs := s) fun c _ => ⟨[some (.str s), some (.str [c])], rfl, rfl, e_cmp (e_var rfl) (e_glo (B.c 9 _ rfl)) rfl⟩
  have lc : ev P (run P n) (.lc (.nm 1) [1] (.seq (.var 0)) (.cst (.bl true)) (.cmp .inn (.var 1) (.glo 9))) [some (.str s), none] h = some (.lst ((s.map fun c => az.contains c).map D.bl), h) := by
    rw [List.map_map]
    exact e_lc (xs := s.map fun c => D.str [c]) (h1 := h) rfl (lim_big (by rw [List.length_map]; omega)) lp
  rw [e_allL lc]
  have : (s.map fun c => az.contains c).all id = s.all fun c => az.contains c := by rw [List.all_map]; rfl
  rw [this, h3]
/-! ### dicts of names -/
def eD (ns : List (List Nat)) : Ob := .dct (ns.map D.str) (ns.map fun _ => .bl true)
theorem eqv_str (a b : List Nat) : D.eqv (.str a) (.str b) = (a == b) := rfl
theorem keyAt_hit {x k y : D} {xs ys : List D} (e : D.eqv x k = true) : keyAt k (x :: xs) (y :: ys) = some y := by simp [keyAt, e]
theorem keyAt_miss {x k y : D} {xs ys : List D} (e : D.eqv x k = false) : keyAt k (x :: xs) (y :: ys) = keyAt k xs ys := by simp [keyAt, e]
theorem eqv_strT {a b : List Nat} (e : a = b) : D.eqv (.str a) (.str b) = true := by rw [eqv_str]; simpa using e
theorem eqv_strF {a b : List Nat} (e : ¬ a = b) : D.eqv (.str a) (.str b) = false := by rw [eqv_str]; simpa using e
theorem keyAt_names {f : List Nat} (v : List Nat → D) : ∀ ns : List (List Nat), (keyAt (.str f) (ns.map D.str) (ns.map v)).isSome = decide (f ∈ ns)
  | [] => rfl
  | a :: ns => by
    rw [List.map_cons, List.map_cons]
    by_cases e : a = f
    · rw [keyAt_hit (eqv_strT e)]; simp [e]
    · rw [keyAt_miss (eqv_strF e), keyAt_names v ns]; simp [Ne.symm e]
theorem keys_names (ns : List (List Nat)) : (ns.map D.str).all isKey = true := by
  rw [List.all_map]
  exact List.all_eq_true.mpr fun x _ => rfl
theorem in_dict {e : Nat} {ns : List (List Nat)} {f : List Nat} (he : h[e]? = some (eD ns)) : op2 h .inn (.str f) (.ref e) = some (.bl (decide (f ∈ ns))) := by
  show (inD h (.str f) (.ref e)).map D.bl = _
  have : inD h (.str f) (.ref e) = some (decide (f ∈ ns)) := by
    show (match lstOf h (.ref e) with
      | some ys => if flat (.str f) && ys.all flat then some (ys.any fun z => D.eqv z (.str f)) else none
      | none => match dctOf h (.ref e) with
        | some (ks, vs) => if isKey (.str f) && ks.all isKey then some (keyAt (.str f) ks vs).isSome else none
        | none => none) = _
    simp only [lstOf, dctOf, he, eD]
    rw [keys_names, keyAt_names]
    rfl
  rw [this]
  rfl
end
end GB

/-! a graph as it stands, and what it tells -/
namespace GB
open VI
def tree (t : Tk) : D := ruleR t.rule (letters t.feeds.length)
def placesF (k : Nat) : List Tk → List D
  | [] => []
  | _ :: ts => .int k :: placesF (k + 1) ts
def gob (ts : List Tk) : Ob := .ins 1 [(5, .tup (ts.map Tk.d)), (6, .dct (ts.map fun t => .str t.nm) (placesF 0 ts)), (7, .tup (ts.map tree))]
def names (ts : List Tk) : List (List Nat) := ts.map (·.nm)
section
variable {P : Pg} {n l i : Nat} {h : Hh} {ts : List Tk} {t : Tk}
theorem ins_g (hl : h[l]? = some (gob ts)) : insAt h (.ref l) = some (l, 1, [(5, .tup (ts.map Tk.d)), (6, .dct (ts.map fun t => .str t.nm) (placesF 0 ts)), (7, .tup (ts.map tree))]) := by
  simp only [insAt, hl, gob]
theorem keyAt_pl {f : List Nat} : ∀ (ts : List Tk) (k : Nat), (keyAt (.str f) (ts.map fun t => .str t.nm) (placesF k ts)).isSome = decide (f ∈ names ts)
  | [], _ => rfl
  | a :: ts, k => by
    rw [List.map_cons, placesF]
    by_cases e : a.nm = f
    · rw [keyAt_hit (eqv_strT e)]; simp [names, e]
    · rw [keyAt_miss (eqv_strF e), keyAt_pl ts]; simp [names, Ne.symm e]
theorem keyAt_at : ∀ {ts : List Tk} {k i : Nat} {t : Tk}, (names ts).Nodup → ts[i]? = some t → keyAt (.str t.nm) (ts.map fun t => .str t.nm) (placesF k ts) = some (.int ((k + i : Nat) : Int))
  | [], _, _, _, _, e => by simp at e
  | a :: ts, k, 0, t, nd, e => by
    simp at e; subst e
    rw [List.map_cons, placesF, keyAt_hit (eqv_strT rfl)]; rfl
  | a :: ts, k, i + 1, t, nd, e => by
    have e : ts[i]? = some t := by simpa using e
    have nd : a.nm ∉ names ts ∧ (names ts).Nodup := by simpa [names] using nd
    have ne : ¬ a.nm = t.nm := fun q => nd.1 (by rw [q]; exact List.mem_map.mpr ⟨t, List.mem_of_getElem? e, rfl⟩)
    rw [List.map_cons, placesF, keyAt_miss (eqv_strF ne), keyAt_at nd.2 e]
    congr 2; omega
theorem keys_pl (ts : List Tk) : (ts.map fun t => D.str t.nm).all isKey = true := by
  rw [List.all_map]
  exact List.all_eq_true.mpr fun x _ => rfl
theorem in_pl {f : List Nat} : op2 h .inn (.str f) (.dct (ts.map fun t => .str t.nm) (placesF 0 ts)) = some (.bl (decide (f ∈ names ts))) := by
  show (inD h (.str f) (.dct _ _)).map D.bl = _
  have : inD h (.str f) (.dct (ts.map fun t => .str t.nm) (placesF 0 ts)) = some (decide (f ∈ names ts)) := by
    show (if isKey (.str f) && (ts.map fun t => D.str t.nm).all isKey then some (keyAt (.str f) (ts.map fun t => D.str t.nm) (placesF 0 ts)).isSome else none) = _
    rw [keys_pl, keyAt_pl]; rfl
  rw [this]; rfl
theorem ix_pl (nd : (names ts).Nodup) (e : ts[i]? = some t) : idxF h (.dct (ts.map fun t => .str t.nm) (placesF 0 ts)) (.str t.nm) = some (.int i) := by
  show (if isKey (.str t.nm) && (ts.map fun t => D.str t.nm).all isKey then keyAt (.str t.nm) (ts.map fun t => D.str t.nm) (placesF 0 ts) else none) = _
  rw [keys_pl, keyAt_at nd e, Nat.zero_add]; rfl
theorem ix_tup {xs : List D} {x : D} (e : xs[i]? = some x) : idxF h (.tup xs) (.int i) = some x := by
  show atD xs (i : Int) = _
  unfold atD
  rw [if_pos (by omega), Int.toNat_natCast]; exact e
theorem ix_ts (e : ts[i]? = some t) : idxF h (.tup (ts.map Tk.d)) (.int i) = some t.d := ix_tup (by rw [List.getElem?_map, e]; rfl)
theorem ix_tr (e : ts[i]? = some t) : idxF h (.tup (ts.map tree)) (.int i) = some (tree t) := ix_tup (by rw [List.getElem?_map, e]; rfl)
theorem ix_d0 : idxF h t.d (.int 0) = some (.str t.nm) := rfl
theorem ix_d1 : idxF h t.d (.int 1) = some (.int t.size) := rfl
theorem ix_d2 : idxF h t.d (.int 2) = some (.tup (t.feeds.map D.str)) := rfl
theorem ix_d3 : idxF h t.d (.int 3) = some (.int t.rounds) := rfl
theorem ix_d4 : idxF h t.d (.int 4) = some (.str t.rule) := rfl
theorem mem_nm (e : ts[i]? = some t) : t.nm ∈ names ts := List.mem_map.mpr ⟨t, List.mem_of_getElem? e, rfl⟩
theorem nm_at {f : List Nat} (m : f ∈ names ts) : ∃ (i : Nat) (t : Tk), ts[i]? = some t ∧ t.nm = f := by
  obtain ⟨t, h1, h2⟩ := List.mem_map.mp m
  obtain ⟨i, h3⟩ := List.getElem?_of_mem h1
  exact ⟨i, t, h3, h2⟩
/-- name in graph -/
theorem r_has (B : Bs P) {f : List Nat} (hl : h[l]? = some (gob ts)) : run P (n + 1) 18 [.ref l, .str f] h = some (.bl (decide (f ∈ names ts)), h) := by
  rw [run_go (B.d 18 _ rfl) rfl]
  simp only [E_var, E_cst, E_glo, E_bin, E_cmp, chF_t, chF_f, E_chain, E_neg, E_and, E_or, E_not, E_ite, E_tup, E_lst, E_mlst, E_mdct, E_call, E_meth, E_prop, E_has, E_fld, E_bi, E_isi, E_idx, E_sl, E_slT, E_slH, E_stat, E_statK, E_dz, E_rev, E_callG, E_methK, E_make, E_makeK, E_dsp, E_inR, E_join, E_upd, E_app, Es_nil, Es_cons, I_seq, I_rng1, I_rng2, I_down, I_enum, I_zip, chO_t, chO_f, X_asg, X_asgF, X_asgI, X_augF, X_par, X_asgT, X_aug, X_expr, X_ret, X_retN, X_ite, X_pass, X_brk, X_cont, thnO_nx, thnO_rt, thnO_bk, thnO_ct, Xs_nil, Xs_cons, endO_nx, endO_rt, bi_lenT, bi_lenL, bi_tupL, bi_tupT, bi_lstT, bi_lstL, bi_int, bi_max, bi_min, bi_allB, bi_anyB, sl_tT, is_int, is_str, is_tup, is_bl, is_lst, look, put, setAll, wipeE, seqOf, boolOf, fget, fput, List.map_cons, List.map_nil, List.length_cons, List.length_nil, List.getElem?_cons_zero, List.getElem?_cons_succ, List.set_cons_zero, List.set_cons_succ, Option.getD_some, Option.bind_some, Option.map_some, List.cons_append, List.nil_append, List.replicate_zero, List.replicate_succ, ↓reduceIte, decide_true, decide_false, Nat.reduceEqDiff, Nat.reduceAdd, Nat.reduceSub, Nat.reduceLT, reduceCtorEq, Bool.not_true, Bool.not_false, Bool.or_false, Bool.or_true, Bool.false_or, Bool.true_or, o_add, o_sub, o_lt, o_le, o_gt, o_ge, o_eq, o_ne, o_isn, o_notn, back_same, nc0, nc1, nc2, nc3, nc4, nc5, nc6, nc7, nc8, nc9, nc10, nc11, nc12, nc20, beq_self_eq_true, Int.reduceEq, Int.reduceBEq, Int.reduceLT, Int.reduceLE, Int.reduceAdd, Int.reduceSub, Int.reduceNeg, b18, ins_g hl, in_pl]
theorem r_place (B : Bs P) (hl : h[l]? = some (gob ts)) (nd : (names ts).Nodup) (e : ts[i]? = some t) : run P (n + 2) 19 [.ref l, .str t.nm] h = some (.int i, h) := by
  rw [run_go (B.d 19 _ rfl) rfl]
  simp only [E_var, E_cst, E_glo, E_bin, E_cmp, chF_t, chF_f, E_chain, E_neg, E_and, E_or, E_not, E_ite, E_tup, E_lst, E_mlst, E_mdct, E_call, E_meth, E_prop, E_has, E_fld, E_bi, E_isi, E_idx, E_sl, E_slT, E_slH, E_stat, E_statK, E_dz, E_rev, E_callG, E_methK, E_make, E_makeK, E_dsp, E_inR, E_join, E_upd, E_app, Es_nil, Es_cons, I_seq, I_rng1, I_rng2, I_down, I_enum, I_zip, chO_t, chO_f, X_asg, X_asgF, X_asgI, X_augF, X_par, X_asgT, X_aug, X_expr, X_ret, X_retN, X_ite, X_pass, X_brk, X_cont, thnO_nx, thnO_rt, thnO_bk, thnO_ct, Xs_nil, Xs_cons, endO_nx, endO_rt, bi_lenT, bi_lenL, bi_tupL, bi_tupT, bi_lstT, bi_lstL, bi_int, bi_max, bi_min, bi_allB, bi_anyB, sl_tT, is_int, is_str, is_tup, is_bl, is_lst, look, put, setAll, wipeE, seqOf, boolOf, fget, fput, List.map_cons, List.map_nil, List.length_cons, List.length_nil, List.getElem?_cons_zero, List.getElem?_cons_succ, List.set_cons_zero, List.set_cons_succ, Option.getD_some, Option.bind_some, Option.map_some, List.cons_append, List.nil_append, List.replicate_zero, List.replicate_succ, ↓reduceIte, decide_true, decide_false, Nat.reduceEqDiff, Nat.reduceAdd, Nat.reduceSub, Nat.reduceLT, reduceCtorEq, Bool.not_true, Bool.not_false, Bool.or_false, Bool.or_true, Bool.false_or, Bool.true_or, o_add, o_sub, o_lt, o_le, o_gt, o_ge, o_eq, o_ne, o_isn, o_notn, back_same, nc0, nc1, nc2, nc3, nc4, nc5, nc6, nc7, nc8, nc9, nc10, nc11, nc12, nc20, beq_self_eq_true, Int.reduceEq, Int.reduceBEq, Int.reduceLT, Int.reduceLE, Int.reduceAdd, Int.reduceSub, Int.reduceNeg, b19, ins_g hl, B.d 18 _ rfl, r_has B hl, mem_nm e, ix_pl nd e]
theorem r_size (B : Bs P) (hl : h[l]? = some (gob ts)) (nd : (names ts).Nodup) (e : ts[i]? = some t) : run P (n + 3) 20 [.ref l, .str t.nm] h = some (.int t.size, h) := by
  rw [run_go (B.d 20 _ rfl) rfl]
  simp only [E_var, E_cst, E_glo, E_bin, E_cmp, chF_t, chF_f, E_chain, E_neg, E_and, E_or, E_not, E_ite, E_tup, E_lst, E_mlst, E_mdct, E_call, E_meth, E_prop, E_has, E_fld, E_bi, E_isi, E_idx, E_sl, E_slT, E_slH, E_stat, E_statK, E_dz, E_rev, E_callG, E_methK, E_make, E_makeK, E_dsp, E_inR, E_join, E_upd, E_app, Es_nil, Es_cons, I_seq, I_rng1, I_rng2, I_down, I_enum, I_zip, chO_t, chO_f, X_asg, X_asgF, X_asgI, X_augF, X_par, X_asgT, X_aug, X_expr, X_ret, X_retN, X_ite, X_pass, X_brk, X_cont, thnO_nx, thnO_rt, thnO_bk, thnO_ct, Xs_nil, Xs_cons, endO_nx, endO_rt, bi_lenT, bi_lenL, bi_tupL, bi_tupT, bi_lstT, bi_lstL, bi_int, bi_max, bi_min, bi_allB, bi_anyB, sl_tT, is_int, is_str, is_tup, is_bl, is_lst, look, put, setAll, wipeE, seqOf, boolOf, fget, fput, List.map_cons, List.map_nil, List.length_cons, List.length_nil, List.getElem?_cons_zero, List.getElem?_cons_succ, List.set_cons_zero, List.set_cons_succ, Option.getD_some, Option.bind_some, Option.map_some, List.cons_append, List.nil_append, List.replicate_zero, List.replicate_succ, ↓reduceIte, decide_true, decide_false, Nat.reduceEqDiff, Nat.reduceAdd, Nat.reduceSub, Nat.reduceLT, reduceCtorEq, Bool.not_true, Bool.not_false, Bool.or_false, Bool.or_true, Bool.false_or, Bool.true_or, o_add, o_sub, o_lt, o_le, o_gt, o_ge, o_eq, o_ne, o_isn, o_notn, back_same, nc0, nc1, nc2, nc3, nc4, nc5, nc6, nc7, nc8, nc9, nc10, nc11, nc12, nc20, beq_self_eq_true, Int.reduceEq, Int.reduceBEq, Int.reduceLT, Int.reduceLE, Int.reduceAdd, Int.reduceSub, Int.reduceNeg, b20, ins_g hl, B.d 19 _ rfl, r_place B hl nd e, ix_ts e, ix_d1]
theorem r_feeds (B : Bs P) (hl : h[l]? = some (gob ts)) (nd : (names ts).Nodup) (e : ts[i]? = some t) : run P (n + 3) 21 [.ref l, .str t.nm] h = some (.tup (t.feeds.map D.str), h) := by
  rw [run_go (B.d 21 _ rfl) rfl]
  simp only [E_var, E_cst, E_glo, E_bin, E_cmp, chF_t, chF_f, E_chain, E_neg, E_and, E_or, E_not, E_ite, E_tup, E_lst, E_mlst, E_mdct, E_call, E_meth, E_prop, E_has, E_fld, E_bi, E_isi, E_idx, E_sl, E_slT, E_slH, E_stat, E_statK, E_dz, E_rev, E_callG, E_methK, E_make, E_makeK, E_dsp, E_inR, E_join, E_upd, E_app, Es_nil, Es_cons, I_seq, I_rng1, I_rng2, I_down, I_enum, I_zip, chO_t, chO_f, X_asg, X_asgF, X_asgI, X_augF, X_par, X_asgT, X_aug, X_expr, X_ret, X_retN, X_ite, X_pass, X_brk, X_cont, thnO_nx, thnO_rt, thnO_bk, thnO_ct, Xs_nil, Xs_cons, endO_nx, endO_rt, bi_lenT, bi_lenL, bi_tupL, bi_tupT, bi_lstT, bi_lstL, bi_int, bi_max, bi_min, bi_allB, bi_anyB, sl_tT, is_int, is_str, is_tup, is_bl, is_lst, look, put, setAll, wipeE, seqOf, boolOf, fget, fput, List.map_cons, List.map_nil, List.length_cons, List.length_nil, List.getElem?_cons_zero, List.getElem?_cons_succ, List.set_cons_zero, List.set_cons_succ, Option.getD_some, Option.bind_some, Option.map_some, List.cons_append, List.nil_append, List.replicate_zero, List.replicate_succ, ↓reduceIte, decide_true, decide_false, Nat.reduceEqDiff, Nat.reduceAdd, Nat.reduceSub, Nat.reduceLT, reduceCtorEq, Bool.not_true, Bool.not_false, Bool.or_false, Bool.or_true, Bool.false_or, Bool.true_or, o_add, o_sub, o_lt, o_le, o_gt, o_ge, o_eq, o_ne, o_isn, o_notn, back_same, nc0, nc1, nc2, nc3, nc4, nc5, nc6, nc7, nc8, nc9, nc10, nc11, nc12, nc20, beq_self_eq_true, Int.reduceEq, Int.reduceBEq, Int.reduceLT, Int.reduceLE, Int.reduceAdd, Int.reduceSub, Int.reduceNeg, b21, ins_g hl, B.d 19 _ rfl, r_place B hl nd e, ix_ts e, ix_d2]
theorem r_rounds (B : Bs P) (hl : h[l]? = some (gob ts)) (nd : (names ts).Nodup) (e : ts[i]? = some t) : run P (n + 3) 22 [.ref l, .str t.nm] h = some (.int t.rounds, h) := by
  rw [run_go (B.d 22 _ rfl) rfl]
  simp only [E_var, E_cst, E_glo, E_bin, E_cmp, chF_t, chF_f, E_chain, E_neg, E_and, E_or, E_not, E_ite, E_tup, E_lst, E_mlst, E_mdct, E_call, E_meth, E_prop, E_has, E_fld, E_bi, E_isi, E_idx, E_sl, E_slT, E_slH, E_stat, E_statK, E_dz, E_rev, E_callG, E_methK, E_make, E_makeK, E_dsp, E_inR, E_join, E_upd, E_app, Es_nil, Es_cons, I_seq, I_rng1, I_rng2, I_down, I_enum, I_zip, chO_t, chO_f, X_asg, X_asgF, X_asgI, X_augF, X_par, X_asgT, X_aug, X_expr, X_ret, X_retN, X_ite, X_pass, X_brk, X_cont, thnO_nx, thnO_rt, thnO_bk, thnO_ct, Xs_nil, Xs_cons, endO_nx, endO_rt, bi_lenT, bi_lenL, bi_tupL, bi_tupT, bi_lstT, bi_lstL, bi_int, bi_max, bi_min, bi_allB, bi_anyB, sl_tT, is_int, is_str, is_tup, is_bl, is_lst, look, put, setAll, wipeE, seqOf, boolOf, fget, fput, List.map_cons, List.map_nil, List.length_cons, List.length_nil, List.getElem?_cons_zero, List.getElem?_cons_succ, List.set_cons_zero, List.set_cons_succ, Option.getD_some, Option.bind_some, Option.map_some, List.cons_append, List.nil_append, List.replicate_zero, List.replicate_succ, ↓reduceIte, decide_true, decide_false, Nat.reduceEqDiff, Nat.reduceAdd, Nat.reduceSub, Nat.reduceLT, reduceCtorEq, Bool.not_true, Bool.not_false, Bool.or_false, Bool.or_true, Bool.false_or, Bool.true_or, o_add, o_sub, o_lt, o_le, o_gt, o_ge, o_eq, o_ne, o_isn, o_notn, back_same, nc0, nc1, nc2, nc3, nc4, nc5, nc6, nc7, nc8, nc9, nc10, nc11, nc12, nc20, beq_self_eq_true, Int.reduceEq, Int.reduceBEq, Int.reduceLT, Int.reduceLE, Int.reduceAdd, Int.reduceSub, Int.reduceNeg, b22, ins_g hl, B.d 19 _ rfl, r_place B hl nd e, ix_ts e, ix_d3]
/-- the names, in order -/
theorem r_names (B : Bs P) (hl : h[l]? = some (gob ts)) (few : ts.length ≤ 1000) : run P (n + 1) 25 [.ref l] h = some (.tup ((names ts).map D.str), h) := by
  rw [run_go (B.d 25 _ rfl) rfl]
  have lp := lc_fun (h := h) (tg := .nm 1) (c := ev P (run P n) (.cst (.bl true))) (e := ev P (run P n) (.idx (.var 1) (.cst (.int 0)))) (δ := [some (.ref l), none]) Tk.d (fun t => D.str t.nm) (xs := ts) fun t _ => ⟨[some (.ref l), some t.d], rfl, rfl, rfl⟩
  have lc : ev P (run P n) (.lc (.nm 1) [1] (.seq (.fld 1 (.var 0) 5)) (.cst (.bl true)) (.idx (.var 1) (.cst (.int 0)))) [some (.ref l), none] h = some (.lst ((names ts).map D.str), h) := by
    refine (e_lc (xs := ts.map Tk.d) (h1 := h) ?_ (lim_big (by rwa [List.length_map])) lp).trans (by rw [names, List.map_map]; rfl)
    simp only [E_var, E_cst, E_glo, E_bin, E_cmp, chF_t, chF_f, E_chain, E_neg, E_and, E_or, E_not, E_ite, E_tup, E_lst, E_mlst, E_mdct, E_call, E_meth, E_prop, E_has, E_fld, E_bi, E_isi, E_idx, E_sl, E_slT, E_slH, E_stat, E_statK, E_dz, E_rev, E_callG, E_methK, E_make, E_makeK, E_dsp, E_inR, E_join, E_upd, E_app, Es_nil, Es_cons, I_seq, I_rng1, I_rng2, I_down, I_enum, I_zip, chO_t, chO_f, X_asg, X_asgF, X_asgI, X_augF, X_par, X_asgT, X_aug, X_expr, X_ret, X_retN, X_ite, X_pass, X_brk, X_cont, thnO_nx, thnO_rt, thnO_bk, thnO_ct, Xs_nil, Xs_cons, endO_nx, endO_rt, bi_lenT, bi_lenL, bi_tupL, bi_tupT, bi_lstT, bi_lstL, bi_int, bi_max, bi_min, bi_allB, bi_anyB, sl_tT, is_int, is_str, is_tup, is_bl, is_lst, look, put, setAll, wipeE, seqOf, boolOf, fget, fput, List.map_cons, List.map_nil, List.length_cons, List.length_nil, List.getElem?_cons_zero, List.getElem?_cons_succ, List.set_cons_zero, List.set_cons_succ, Option.getD_some, Option.bind_some, Option.map_some, List.cons_append, List.nil_append, List.replicate_zero, List.replicate_succ, ↓reduceIte, decide_true, decide_false, Nat.reduceEqDiff, Nat.reduceAdd, Nat.reduceSub, Nat.reduceLT, reduceCtorEq, Bool.not_true, Bool.not_false, Bool.or_false, Bool.or_true, Bool.false_or, Bool.true_or, o_add, o_sub, o_lt, o_le, o_gt, o_ge, o_eq, o_ne, o_isn, o_notn, back_same, nc0, nc1, nc2, nc3, nc4, nc5, nc6, nc7, nc8, nc9, nc10, nc11, nc12, nc20, beq_self_eq_true, Int.reduceEq, Int.reduceBEq, Int.reduceLT, Int.reduceLE, Int.reduceAdd, Int.reduceSub, Int.reduceNeg, ins_g hl]
  simp only [E_var, E_cst, E_glo, E_bin, E_cmp, chF_t, chF_f, E_chain, E_neg, E_and, E_or, E_not, E_ite, E_tup, E_lst, E_mlst, E_mdct, E_call, E_meth, E_prop, E_has, E_fld, E_bi, E_isi, E_idx, E_sl, E_slT, E_slH, E_stat, E_statK, E_dz, E_rev, E_callG, E_methK, E_make, E_makeK, E_dsp, E_inR, E_join, E_upd, E_app, Es_nil, Es_cons, I_seq, I_rng1, I_rng2, I_down, I_enum, I_zip, chO_t, chO_f, X_asg, X_asgF, X_asgI, X_augF, X_par, X_asgT, X_aug, X_expr, X_ret, X_retN, X_ite, X_pass, X_brk, X_cont, thnO_nx, thnO_rt, thnO_bk, thnO_ct, Xs_nil, Xs_cons, endO_nx, endO_rt, bi_lenT, bi_lenL, bi_tupL, bi_tupT, bi_lstT, bi_lstL, bi_int, bi_max, bi_min, bi_allB, bi_anyB, sl_tT, is_int, is_str, is_tup, is_bl, is_lst, look, put, setAll, wipeE, seqOf, boolOf, fget, fput, List.map_cons, List.map_nil, List.length_cons, List.length_nil, List.getElem?_cons_zero, List.getElem?_cons_succ, List.set_cons_zero, List.set_cons_succ, Option.getD_some, Option.bind_some, Option.map_some, List.cons_append, List.nil_append, List.replicate_zero, List.replicate_succ, ↓reduceIte, decide_true, decide_false, Nat.reduceEqDiff, Nat.reduceAdd, Nat.reduceSub, Nat.reduceLT, reduceCtorEq, Bool.not_true, Bool.not_false, Bool.or_false, Bool.or_true, Bool.false_or, Bool.true_or, o_add, o_sub, o_lt, o_le, o_gt, o_ge, o_eq, o_ne, o_isn, o_notn, back_same, nc0, nc1, nc2, nc3, nc4, nc5, nc6, nc7, nc8, nc9, nc10, nc11, nc12, nc20, beq_self_eq_true, Int.reduceEq, Int.reduceBEq, Int.reduceLT, Int.reduceLE, Int.reduceAdd, Int.reduceSub, Int.reduceNeg, b25, lc]
def szOf (ts : List Tk) (f : List Nat) : Nat := match ts.find? (fun t => t.nm == f) with
  | some t => t.size
  | none => 0
theorem find_at : ∀ {ts : List Tk} {i : Nat} {t : Tk}, (names ts).Nodup → ts[i]? = some t → ts.find? (fun u => u.nm == t.nm) = some t
  | [], _, _, _, e => by simp at e
  | a :: ts, 0, t, nd, e => by simp at e; subst e; simp
  | a :: ts, i + 1, t, nd, e => by
    have e : ts[i]? = some t := by simpa using e
    have nd : a.nm ∉ names ts ∧ (names ts).Nodup := by simpa [names] using nd
    have ne : ¬ a.nm = t.nm := fun q => nd.1 (by rw [q]; exact mem_nm e)
    rw [List.find?_cons_of_neg (by simpa using ne), find_at nd.2 e]
theorem sz_at (nd : (names ts).Nodup) (e : ts[i]? = some t) : szOf ts t.nm = t.size := by unfold szOf; rw [find_at nd e]
def nats (ks : List Nat) : List D := ks.map fun (k : Nat) => D.int (k : Int)
def okVals (szs : List Nat) (vs : List Int) : Bool := decide (vs.length = szs.length) && (vs.zip szs).all fun p => decide (0 ≤ p.1 ∧ p.1 ≤ (p.2 : Int) - 1)
theorem zipL_ints : ∀ (vs : List Int) (szs : List Nat), zipL (vs.map D.int) (nats szs) = (vs.zip szs).map fun p => D.tup [.int p.1, .int (p.2 : Int)]
  | [], _ => rfl
  | _ :: _, [] => rfl
  | v :: vs, k :: szs => by
    have := zipL_ints vs szs
    simp only [nats, List.map_cons, zipL, List.zip_cons_cons] at this ⊢
    rw [this]
/-- has_values, of ints -/
theorem r_hasv (B : Bs P) (hl : h[l]? = some (gob ts)) (nd : (names ts).Nodup) (e : ts[i]? = some t) (few : t.feeds.length ≤ 3) (fed : ∀ f ∈ t.feeds, f ∈ names ts) {vs : List Int} :
    run P (n + 4) 23 [.ref l, .str t.nm, .tup (vs.map D.int)] h = some (.bl (okVals (t.feeds.map (szOf ts)) vs), h) := by
  rw [run_go (B.d 23 _ rfl) rfl]
  have lp := lc_fun (h := h) (tg := .nm 4) (c := ev P (run P (n + 3)) (.cst (.bl true))) (e := ev P (run P (n + 3)) (.meth 20 (.var 0) (.cons (.var 4) .nil))) (δ := [some (.ref l), some (.str t.nm), some (.tup (vs.map D.int)), none, none, none, none]) D.str (fun f => D.int (szOf ts f : Nat)) (xs := t.feeds) fun f hf => by
    obtain ⟨j, u, h1, h2⟩ := nm_at (fed f hf)
    subst h2
    refine ⟨[some (.ref l), some (.str t.nm), some (.tup (vs.map D.int)), none, some (.str u.nm), none, none], rfl, rfl, ?_⟩
    simp only [E_var, E_cst, E_glo, E_bin, E_cmp, chF_t, chF_f, E_chain, E_neg, E_and, E_or, E_not, E_ite, E_tup, E_lst, E_mlst, E_mdct, E_call, E_meth, E_prop, E_has, E_fld, E_bi, E_isi, E_idx, E_sl, E_slT, E_slH, E_stat, E_statK, E_dz, E_rev, E_callG, E_methK, E_make, E_makeK, E_dsp, E_inR, E_join, E_upd, E_app, Es_nil, Es_cons, I_seq, I_rng1, I_rng2, I_down, I_enum, I_zip, chO_t, chO_f, X_asg, X_asgF, X_asgI, X_augF, X_par, X_asgT, X_aug, X_expr, X_ret, X_retN, X_ite, X_pass, X_brk, X_cont, thnO_nx, thnO_rt, thnO_bk, thnO_ct, Xs_nil, Xs_cons, endO_nx, endO_rt, bi_lenT, bi_lenL, bi_tupL, bi_tupT, bi_lstT, bi_lstL, bi_int, bi_max, bi_min, bi_allB, bi_anyB, sl_tT, is_int, is_str, is_tup, is_bl, is_lst, look, put, setAll, wipeE, seqOf, boolOf, fget, fput, List.map_cons, List.map_nil, List.length_cons, List.length_nil, List.getElem?_cons_zero, List.getElem?_cons_succ, List.set_cons_zero, List.set_cons_succ, Option.getD_some, Option.bind_some, Option.map_some, List.cons_append, List.nil_append, List.replicate_zero, List.replicate_succ, ↓reduceIte, decide_true, decide_false, Nat.reduceEqDiff, Nat.reduceAdd, Nat.reduceSub, Nat.reduceLT, reduceCtorEq, Bool.not_true, Bool.not_false, Bool.or_false, Bool.or_true, Bool.false_or, Bool.true_or, o_add, o_sub, o_lt, o_le, o_gt, o_ge, o_eq, o_ne, o_isn, o_notn, back_same, nc0, nc1, nc2, nc3, nc4, nc5, nc6, nc7, nc8, nc9, nc10, nc11, nc12, nc20, beq_self_eq_true, Int.reduceEq, Int.reduceBEq, Int.reduceLT, Int.reduceLE, Int.reduceAdd, Int.reduceSub, Int.reduceNeg, ins_g hl, B.d 20 _ rfl, r_size B hl nd h1, sz_at nd h1]
  have lc : ev P (run P (n + 3)) (.lc (.nm 4) [4] (.seq (.meth 21 (.var 0) (.cons (.var 1) .nil))) (.cst (.bl true)) (.meth 20 (.var 0) (.cons (.var 4) .nil))) [some (.ref l), some (.str t.nm), some (.tup (vs.map D.int)), none, none, none, none] h = some (.lst (nats (t.feeds.map (szOf ts))), h) := by
    refine (e_lc (xs := t.feeds.map D.str) (h1 := h) ?_ (lim_big (by rw [List.length_map]; omega)) lp).trans (by rw [nats, List.map_map]; rfl)
    simp only [E_var, E_cst, E_glo, E_bin, E_cmp, chF_t, chF_f, E_chain, E_neg, E_and, E_or, E_not, E_ite, E_tup, E_lst, E_mlst, E_mdct, E_call, E_meth, E_prop, E_has, E_fld, E_bi, E_isi, E_idx, E_sl, E_slT, E_slH, E_stat, E_statK, E_dz, E_rev, E_callG, E_methK, E_make, E_makeK, E_dsp, E_inR, E_join, E_upd, E_app, Es_nil, Es_cons, I_seq, I_rng1, I_rng2, I_down, I_enum, I_zip, chO_t, chO_f, X_asg, X_asgF, X_asgI, X_augF, X_par, X_asgT, X_aug, X_expr, X_ret, X_retN, X_ite, X_pass, X_brk, X_cont, thnO_nx, thnO_rt, thnO_bk, thnO_ct, Xs_nil, Xs_cons, endO_nx, endO_rt, bi_lenT, bi_lenL, bi_tupL, bi_tupT, bi_lstT, bi_lstL, bi_int, bi_max, bi_min, bi_allB, bi_anyB, sl_tT, is_int, is_str, is_tup, is_bl, is_lst, look, put, setAll, wipeE, seqOf, boolOf, fget, fput, List.map_cons, List.map_nil, List.length_cons, List.length_nil, List.getElem?_cons_zero, List.getElem?_cons_succ, List.set_cons_zero, List.set_cons_succ, Option.getD_some, Option.bind_some, Option.map_some, List.cons_append, List.nil_append, List.replicate_zero, List.replicate_succ, ↓reduceIte, decide_true, decide_false, Nat.reduceEqDiff, Nat.reduceAdd, Nat.reduceSub, Nat.reduceLT, reduceCtorEq, Bool.not_true, Bool.not_false, Bool.or_false, Bool.or_true, Bool.false_or, Bool.true_or, o_add, o_sub, o_lt, o_le, o_gt, o_ge, o_eq, o_ne, o_isn, o_notn, back_same, nc0, nc1, nc2, nc3, nc4, nc5, nc6, nc7, nc8, nc9, nc10, nc11, nc12, nc20, beq_self_eq_true, Int.reduceEq, Int.reduceBEq, Int.reduceLT, Int.reduceLE, Int.reduceAdd, Int.reduceSub, Int.reduceNeg, ins_g hl, B.d 21 _ rfl, r_feeds B hl nd e]
  have ln : (nats (t.feeds.map (szOf ts))).length = t.feeds.length := by simp [nats]
  by_cases q : vs.length = t.feeds.length
  · have lp2 := lc_fun (h := h) (tg := .tp [5, 6]) (c := ev P (run P (n + 3)) (.cst (.bl true))) (e := ev P (run P (n + 3)) (.call 12 (.cons (.var 5) (.cons (.cst (.int 0)) (.cons (.bin .sub (.var 6) (.cst (.int 1))) .nil))))) (δ := [some (.ref l), some (.str t.nm), some (.tup (vs.map D.int)), some (.lst (nats (t.feeds.map (szOf ts)))), none, none, none]) (fun p : Int × Nat => D.tup [.int p.1, .int (p.2 : Int)]) (fun p => D.bl (decide (0 ≤ p.1 ∧ p.1 ≤ (p.2 : Int) - 1))) (xs := vs.zip (t.feeds.map (szOf ts))) fun p _ => by
      refine ⟨[some (.ref l), some (.str t.nm), some (.tup (vs.map D.int)), some (.lst (nats (t.feeds.map (szOf ts)))), none, some (.int p.1), some (.int (p.2 : Int))], rfl, rfl, ?_⟩
      simp only [E_var, E_cst, E_glo, E_bin, E_cmp, chF_t, chF_f, E_chain, E_neg, E_and, E_or, E_not, E_ite, E_tup, E_lst, E_mlst, E_mdct, E_call, E_meth, E_prop, E_has, E_fld, E_bi, E_isi, E_idx, E_sl, E_slT, E_slH, E_stat, E_statK, E_dz, E_rev, E_callG, E_methK, E_make, E_makeK, E_dsp, E_inR, E_join, E_upd, E_app, Es_nil, Es_cons, I_seq, I_rng1, I_rng2, I_down, I_enum, I_zip, chO_t, chO_f, X_asg, X_asgF, X_asgI, X_augF, X_par, X_asgT, X_aug, X_expr, X_ret, X_retN, X_ite, X_pass, X_brk, X_cont, thnO_nx, thnO_rt, thnO_bk, thnO_ct, Xs_nil, Xs_cons, endO_nx, endO_rt, bi_lenT, bi_lenL, bi_tupL, bi_tupT, bi_lstT, bi_lstL, bi_int, bi_max, bi_min, bi_allB, bi_anyB, sl_tT, is_int, is_str, is_tup, is_bl, is_lst, look, put, setAll, wipeE, seqOf, boolOf, fget, fput, List.map_cons, List.map_nil, List.length_cons, List.length_nil, List.getElem?_cons_zero, List.getElem?_cons_succ, List.set_cons_zero, List.set_cons_succ, Option.getD_some, Option.bind_some, Option.map_some, List.cons_append, List.nil_append, List.replicate_zero, List.replicate_succ, ↓reduceIte, decide_true, decide_false, Nat.reduceEqDiff, Nat.reduceAdd, Nat.reduceSub, Nat.reduceLT, reduceCtorEq, Bool.not_true, Bool.not_false, Bool.or_false, Bool.or_true, Bool.false_or, Bool.true_or, o_add, o_sub, o_lt, o_le, o_gt, o_ge, o_eq, o_ne, o_isn, o_notn, back_same, nc0, nc1, nc2, nc3, nc4, nc5, nc6, nc7, nc8, nc9, nc10, nc11, nc12, nc20, beq_self_eq_true, Int.reduceEq, Int.reduceBEq, Int.reduceLT, Int.reduceLE, Int.reduceAdd, Int.reduceSub, Int.reduceNeg, r_between B]
    have lc2 : ev P (run P (n + 3)) (.lc (.tp [5, 6]) [5, 6] (.zip (.var 2) (.var 3)) (.cst (.bl true)) (.call 12 (.cons (.var 5) (.cons (.cst (.int 0)) (.cons (.bin .sub (.var 6) (.cst (.int 1))) .nil))))) [some (.ref l), some (.str t.nm), some (.tup (vs.map D.int)), some (.lst (nats (t.feeds.map (szOf ts)))), none, none, none] h = some (.lst (((vs.zip (t.feeds.map (szOf ts))).map fun p => decide (0 ≤ p.1 ∧ p.1 ≤ (p.2 : Int) - 1)).map D.bl), h) := by
      refine (e_lc (h1 := h) ?_ (lim_big ?_) lp2).trans (by rw [List.map_map]; rfl)
      · simp only [E_var, E_cst, E_glo, E_bin, E_cmp, chF_t, chF_f, E_chain, E_neg, E_and, E_or, E_not, E_ite, E_tup, E_lst, E_mlst, E_mdct, E_call, E_meth, E_prop, E_has, E_fld, E_bi, E_isi, E_idx, E_sl, E_slT, E_slH, E_stat, E_statK, E_dz, E_rev, E_callG, E_methK, E_make, E_makeK, E_dsp, E_inR, E_join, E_upd, E_app, Es_nil, Es_cons, I_seq, I_rng1, I_rng2, I_down, I_enum, I_zip, chO_t, chO_f, X_asg, X_asgF, X_asgI, X_augF, X_par, X_asgT, X_aug, X_expr, X_ret, X_retN, X_ite, X_pass, X_brk, X_cont, thnO_nx, thnO_rt, thnO_bk, thnO_ct, Xs_nil, Xs_cons, endO_nx, endO_rt, bi_lenT, bi_lenL, bi_tupL, bi_tupT, bi_lstT, bi_lstL, bi_int, bi_max, bi_min, bi_allB, bi_anyB, sl_tT, is_int, is_str, is_tup, is_bl, is_lst, look, put, setAll, wipeE, seqOf, boolOf, fget, fput, List.map_cons, List.map_nil, List.length_cons, List.length_nil, List.getElem?_cons_zero, List.getElem?_cons_succ, List.set_cons_zero, List.set_cons_succ, Option.getD_some, Option.bind_some, Option.map_some, List.cons_append, List.nil_append, List.replicate_zero, List.replicate_succ, ↓reduceIte, decide_true, decide_false, Nat.reduceEqDiff, Nat.reduceAdd, Nat.reduceSub, Nat.reduceLT, reduceCtorEq, Bool.not_true, Bool.not_false, Bool.or_false, Bool.or_true, Bool.false_or, Bool.true_or, o_add, o_sub, o_lt, o_le, o_gt, o_ge, o_eq, o_ne, o_isn, o_notn, back_same, nc0, nc1, nc2, nc3, nc4, nc5, nc6, nc7, nc8, nc9, nc10, nc11, nc12, nc20, beq_self_eq_true, Int.reduceEq, Int.reduceBEq, Int.reduceLT, Int.reduceLE, Int.reduceAdd, Int.reduceSub, Int.reduceNeg, zipL_ints]
      · rw [List.length_map, List.length_zip, q, List.length_map]; omega
    have q2 : ((vs.length : Int) == (t.feeds.length : Int)) = true := by rw [q]; simp
    simp only [E_var, E_cst, E_glo, E_bin, E_cmp, chF_t, chF_f, E_chain, E_neg, E_and, E_or, E_not, E_ite, E_tup, E_lst, E_mlst, E_mdct, E_call, E_meth, E_prop, E_has, E_fld, E_bi, E_isi, E_idx, E_sl, E_slT, E_slH, E_stat, E_statK, E_dz, E_rev, E_callG, E_methK, E_make, E_makeK, E_dsp, E_inR, E_join, E_upd, E_app, Es_nil, Es_cons, I_seq, I_rng1, I_rng2, I_down, I_enum, I_zip, chO_t, chO_f, X_asg, X_asgF, X_asgI, X_augF, X_par, X_asgT, X_aug, X_expr, X_ret, X_retN, X_ite, X_pass, X_brk, X_cont, thnO_nx, thnO_rt, thnO_bk, thnO_ct, Xs_nil, Xs_cons, endO_nx, endO_rt, bi_lenT, bi_lenL, bi_tupL, bi_tupT, bi_lstT, bi_lstL, bi_int, bi_max, bi_min, bi_allB, bi_anyB, sl_tT, is_int, is_str, is_tup, is_bl, is_lst, look, put, setAll, wipeE, seqOf, boolOf, fget, fput, List.map_cons, List.map_nil, List.length_cons, List.length_nil, List.getElem?_cons_zero, List.getElem?_cons_succ, List.set_cons_zero, List.set_cons_succ, Option.getD_some, Option.bind_some, Option.map_some, List.cons_append, List.nil_append, List.replicate_zero, List.replicate_succ, ↓reduceIte, decide_true, decide_false, Nat.reduceEqDiff, Nat.reduceAdd, Nat.reduceSub, Nat.reduceLT, reduceCtorEq, Bool.not_true, Bool.not_false, Bool.or_false, Bool.or_true, Bool.false_or, Bool.true_or, o_add, o_sub, o_lt, o_le, o_gt, o_ge, o_eq, o_ne, o_isn, o_notn, back_same, nc0, nc1, nc2, nc3, nc4, nc5, nc6, nc7, nc8, nc9, nc10, nc11, nc12, nc20, beq_self_eq_true, Int.reduceEq, Int.reduceBEq, Int.reduceLT, Int.reduceLE, Int.reduceAdd, Int.reduceSub, Int.reduceNeg, b23, lc, lc2, List.length_map, ln, q2]
    rw [List.all_map, okVals, decide_eq_true (show vs.length = (t.feeds.map (szOf ts)).length by rw [q, List.length_map])]
    rfl
  · have q2 : ((vs.length : Int) == (t.feeds.length : Int)) = false := by simpa using fun z => q (by omega)
    simp only [E_var, E_cst, E_glo, E_bin, E_cmp, chF_t, chF_f, E_chain, E_neg, E_and, E_or, E_not, E_ite, E_tup, E_lst, E_mlst, E_mdct, E_call, E_meth, E_prop, E_has, E_fld, E_bi, E_isi, E_idx, E_sl, E_slT, E_slH, E_stat, E_statK, E_dz, E_rev, E_callG, E_methK, E_make, E_makeK, E_dsp, E_inR, E_join, E_upd, E_app, Es_nil, Es_cons, I_seq, I_rng1, I_rng2, I_down, I_enum, I_zip, chO_t, chO_f, X_asg, X_asgF, X_asgI, X_augF, X_par, X_asgT, X_aug, X_expr, X_ret, X_retN, X_ite, X_pass, X_brk, X_cont, thnO_nx, thnO_rt, thnO_bk, thnO_ct, Xs_nil, Xs_cons, endO_nx, endO_rt, bi_lenT, bi_lenL, bi_tupL, bi_tupT, bi_lstT, bi_lstL, bi_int, bi_max, bi_min, bi_allB, bi_anyB, sl_tT, is_int, is_str, is_tup, is_bl, is_lst, look, put, setAll, wipeE, seqOf, boolOf, fget, fput, List.map_cons, List.map_nil, List.length_cons, List.length_nil, List.getElem?_cons_zero, List.getElem?_cons_succ, List.set_cons_zero, List.set_cons_succ, Option.getD_some, Option.bind_some, Option.map_some, List.cons_append, List.nil_append, List.replicate_zero, List.replicate_succ, ↓reduceIte, decide_true, decide_false, Nat.reduceEqDiff, Nat.reduceAdd, Nat.reduceSub, Nat.reduceLT, reduceCtorEq, Bool.not_true, Bool.not_false, Bool.or_false, Bool.or_true, Bool.false_or, Bool.true_or, o_add, o_sub, o_lt, o_le, o_gt, o_ge, o_eq, o_ne, o_isn, o_notn, back_same, nc0, nc1, nc2, nc3, nc4, nc5, nc6, nc7, nc8, nc9, nc10, nc11, nc12, nc20, beq_self_eq_true, Int.reduceEq, Int.reduceBEq, Int.reduceLT, Int.reduceLE, Int.reduceAdd, Int.reduceSub, Int.reduceNeg, b23, lc, List.length_map, ln, q2]
    simp [okVals, q]
end
end GB

/-! tasks and graphs that are ones; Graph(tasks) -/
namespace GB
open VI
structure TkOk (ns : List (List Nat)) (t : Tk) : Prop where
  nm : isName t.nm
  new : t.nm ∉ ns
  lo : 2 ≤ t.size
  hi : t.size ≤ 5
  few : t.feeds.length ≤ 3
  fed : ∀ f ∈ t.feeds, f ∈ ns
  nd : t.feeds.Nodup
  r1 : 1 ≤ t.rounds
  r2 : t.rounds ≤ 60
  rule : tree t ≠ .non
  len : t.rule.length ≤ 600
def GrOk : List (List Nat) → List Tk → Prop
  | _, [] => True
  | ns, t :: ts => TkOk ns t ∧ GrOk (ns ++ [t.nm]) ts
theorem GrOk.at : ∀ {ns : List (List Nat)} {ts : List Tk} {i : Nat} {t : Tk}, GrOk ns ts → ts[i]? = some t → TkOk (ns ++ names (ts.take i)) t
  | ns, [], _, _, _, e => by simp at e
  | ns, a :: ts, 0, t, g, e => by simp at e; subst e; simpa [names] using g.1
  | ns, a :: ts, i + 1, t, g, e => by
    have := GrOk.at g.2 (show ts[i]? = some t by simpa using e)
    simpa [names] using this
theorem GrOk.nd : ∀ {ns : List (List Nat)} {ts : List Tk}, GrOk ns ts → (names ts).Nodup ∧ ∀ f ∈ names ts, f ∉ ns
  | ns, [], _ => ⟨by simp [names], fun f hf => by simp [names] at hf⟩
  | ns, a :: ts, g => by
    obtain ⟨h1, h2⟩ := GrOk.nd g.2
    refine ⟨?_, fun f hf => ?_⟩
    · have : a.nm ∉ names ts := fun q => h2 _ q (by simp)
      simpa [names] using ⟨fun x hx q => this (by rw [← q]; exact List.mem_map.mpr ⟨x, hx, rfl⟩), h1⟩
    · rcases List.mem_cons.mp (show f ∈ a.nm :: names ts from hf) with q | q
      · subst q; exact g.1.new
      · exact fun z => h2 f q (by simp [z])
theorem GrOk.fed {ts : List Tk} {i : Nat} {t : Tk} (g : GrOk [] ts) (e : ts[i]? = some t) : ∀ f ∈ t.feeds, f ∈ names ts := fun f hf => by
  have := (g.at e).fed f hf
  rw [List.nil_append] at this
  obtain ⟨u, h1, h2⟩ := List.mem_map.mp this
  exact List.mem_map.mpr ⟨u, List.mem_of_mem_take h1, h2⟩
section
variable {P : Pg} {n l i e : Nat} {h : Hh} {ts : List Tk} {t : Tk} {ns : List (List Nat)}
theorem eqv_sym_str {a b : List Nat} : D.eqv (.str a) (.str b) = (a == b) := rfl
theorem any_str {f : List Nat} : ∀ {ks : List (List Nat)}, f ∉ ks → (ks.map D.str).any (fun x => D.eqv x (.str f)) = false
  | [], _ => rfl
  | k :: ks, m => by
    have ne : ¬ k = f := fun q => m (by simp [q])
    rw [List.map_cons, List.any_cons, eqv_strF ne, Bool.false_or]
    exact any_str fun q => m (by simp [q])
theorem put_new {f : List Nat} {v : D} {ks : List (List Nat)} {vs : List D} (m : f ∉ ks) : putAt (.str f) v (ks.map D.str) vs = ((ks ++ [f]).map D.str, vs ++ [v]) := by
  unfold putAt
  rw [any_str m]
  simp
/-- {name: True for name in row} -/
theorem dc_names {k v : Ev → Hh → Option (D × Hh)} {j : Nat} {δ : Ev} (hk : ∀ f : List Nat, k (δ.set j (some (.str f))) h = some (.str f, h)) (hv : ∀ f : List Nat, v (δ.set j (some (.str f))) h = some (.bl true, h)) : ∀ {fs ks : List (List Nat)}, (ks ++ fs).Nodup →
    dcLoop (.nm j) k v δ (fs.map D.str) (ks.map D.str, ks.map fun _ => .bl true) h = some (((ks ++ fs).map D.str, (ks ++ fs).map fun _ => .bl true), h)
  | [], ks, _ => by simp [dcLoop]
  | f :: fs, ks, nd => by
    have m : f ∉ ks := fun q => by
      have := List.nodup_append.mp nd
      exact this.2.2 f q f (by simp) rfl
    have ih := dc_names hk hv (fs := fs) (ks := ks ++ [f]) (by simpa using nd)
    simp only [List.map_cons, dcLoop, put, Option.bind_some, hk, hv, isKey, if_true]
    rw [put_new m]
    have : (ks.map fun _ => D.bl true) ++ [.bl true] = (ks ++ [f]).map fun _ => D.bl true := by simp
    rw [this, ih]
    simp
theorem o_notnN {x : D} (hx : x ≠ .non) : op2 h .notn x .non = some (.bl true) := by
  rw [o_notn]
  cases x <;> first | rfl | exact absurd rfl hx
theorem bi_lenN {ks : List (List Nat)} {vs : List D} : biF h .len [.dct (ks.map D.str) vs] = some (.int ks.length) := by
  show (if (ks.map D.str).all isKey then some (D.int (ks.map D.str).length) else none) = _
  rw [keys_names, List.length_map]; rfl
theorem e_dc {Φ : Fn} {δ : Ev} {tg : Tg} {own : List Nat} {it : It} {k v : E} {xs ks vs : List D} {h1 h2 : Hh} (hi : evI P Φ it δ h = some (xs, h1)) (hl : xs.length < lim) (e : dcLoop tg (ev P Φ k) (ev P Φ v) (wipeE δ own) xs ([], []) h1 = some ((ks, vs), h2)) : ev P Φ (.dc tg own it k v) δ h = some (.dct ks vs, h2) := by
  simp only [ev, hi, hl, e, Option.bind_some, Option.map_some, if_true]
/-- are_feeds -/
theorem r_afeeds (B : Bs P) {fs : List (List Nat)} (he : h[e]? = some (eD ns)) (few : fs.length ≤ 3) (fed : ∀ f ∈ fs, f ∈ ns) (nd : fs.Nodup) : run P (n + 1) 14 [.tup (fs.map D.str), .ref e] h = some (.bl true, h) := by
  rw [run_go (B.d 14 _ rfl) rfl]
  have lp := lc_fun (h := h) (tg := .nm 2) (c := ev P (run P n) (.cst (.bl true))) (e := ev P (run P n) (.andV (.isi (.var 2) .str) (.cmp .inn (.var 2) (.var 1)))) (δ := [some (.tup (fs.map D.str)), some (.ref e), none]) D.str (fun _ => D.bl true) (xs := fs) fun f hf => by
    refine ⟨[some (.tup (fs.map D.str)), some (.ref e), some (.str f)], rfl, E_cst, ?_⟩
    simp only [E_var, E_cst, E_glo, E_bin, E_cmp, chF_t, chF_f, E_chain, E_neg, E_and, E_or, E_not, E_ite, E_tup, E_lst, E_mlst, E_mdct, E_call, E_meth, E_prop, E_has, E_fld, E_bi, E_isi, E_idx, E_sl, E_slT, E_slH, E_stat, E_statK, E_dz, E_rev, E_callG, E_methK, E_make, E_makeK, E_dsp, E_inR, E_join, E_upd, E_app, Es_nil, Es_cons, I_seq, I_rng1, I_rng2, I_down, I_enum, I_zip, chO_t, chO_f, X_asg, X_asgF, X_asgI, X_augF, X_par, X_asgT, X_aug, X_expr, X_ret, X_retN, X_ite, X_pass, X_brk, X_cont, thnO_nx, thnO_rt, thnO_bk, thnO_ct, Xs_nil, Xs_cons, endO_nx, endO_rt, bi_lenT, bi_lenL, bi_tupL, bi_tupT, bi_lstT, bi_lstL, bi_int, bi_max, bi_min, bi_allB, bi_anyB, sl_tT, is_int, is_str, is_tup, is_bl, is_lst, look, put, setAll, wipeE, seqOf, boolOf, fget, fput, List.map_cons, List.map_nil, List.length_cons, List.length_nil, List.getElem?_cons_zero, List.getElem?_cons_succ, List.set_cons_zero, List.set_cons_succ, Option.getD_some, Option.bind_some, Option.map_some, List.cons_append, List.nil_append, List.replicate_zero, List.replicate_succ, ↓reduceIte, decide_true, decide_false, Nat.reduceEqDiff, Nat.reduceAdd, Nat.reduceSub, Nat.reduceLT, reduceCtorEq, Bool.not_true, Bool.not_false, Bool.or_false, Bool.or_true, Bool.false_or, Bool.true_or, o_add, o_sub, o_lt, o_le, o_gt, o_ge, o_eq, o_ne, o_isn, o_notn, back_same, nc0, nc1, nc2, nc3, nc4, nc5, nc6, nc7, nc8, nc9, nc10, nc11, nc12, nc20, beq_self_eq_true, Int.reduceEq, Int.reduceBEq, Int.reduceLT, Int.reduceLE, Int.reduceAdd, Int.reduceSub, Int.reduceNeg, in_dict he, fed f hf]
  have lc : ev P (run P n) (.lc (.nm 2) [2] (.seq (.var 0)) (.cst (.bl true)) (.andV (.isi (.var 2) .str) (.cmp .inn (.var 2) (.var 1)))) [some (.tup (fs.map D.str)), some (.ref e), none] h = some (.lst ((fs.map fun _ => true).map D.bl), h) := by
    refine (e_lc (xs := fs.map D.str) (h1 := h) ?_ (lim_big (by rw [List.length_map]; omega)) lp).trans (by rw [List.map_map]; rfl)
    simp only [E_var, E_cst, E_glo, E_bin, E_cmp, chF_t, chF_f, E_chain, E_neg, E_and, E_or, E_not, E_ite, E_tup, E_lst, E_mlst, E_mdct, E_call, E_meth, E_prop, E_has, E_fld, E_bi, E_isi, E_idx, E_sl, E_slT, E_slH, E_stat, E_statK, E_dz, E_rev, E_callG, E_methK, E_make, E_makeK, E_dsp, E_inR, E_join, E_upd, E_app, Es_nil, Es_cons, I_seq, I_rng1, I_rng2, I_down, I_enum, I_zip, chO_t, chO_f, X_asg, X_asgF, X_asgI, X_augF, X_par, X_asgT, X_aug, X_expr, X_ret, X_retN, X_ite, X_pass, X_brk, X_cont, thnO_nx, thnO_rt, thnO_bk, thnO_ct, Xs_nil, Xs_cons, endO_nx, endO_rt, bi_lenT, bi_lenL, bi_tupL, bi_tupT, bi_lstT, bi_lstL, bi_int, bi_max, bi_min, bi_allB, bi_anyB, sl_tT, is_int, is_str, is_tup, is_bl, is_lst, look, put, setAll, wipeE, seqOf, boolOf, fget, fput, List.map_cons, List.map_nil, List.length_cons, List.length_nil, List.getElem?_cons_zero, List.getElem?_cons_succ, List.set_cons_zero, List.set_cons_succ, Option.getD_some, Option.bind_some, Option.map_some, List.cons_append, List.nil_append, List.replicate_zero, List.replicate_succ, ↓reduceIte, decide_true, decide_false, Nat.reduceEqDiff, Nat.reduceAdd, Nat.reduceSub, Nat.reduceLT, reduceCtorEq, Bool.not_true, Bool.not_false, Bool.or_false, Bool.or_true, Bool.false_or, Bool.true_or, o_add, o_sub, o_lt, o_le, o_gt, o_ge, o_eq, o_ne, o_isn, o_notn, back_same, nc0, nc1, nc2, nc3, nc4, nc5, nc6, nc7, nc8, nc9, nc10, nc11, nc12, nc20, beq_self_eq_true, Int.reduceEq, Int.reduceBEq, Int.reduceLT, Int.reduceLE, Int.reduceAdd, Int.reduceSub, Int.reduceNeg]
  have dc : ev P (run P n) (.dc (.nm 2) [2] (.seq (.var 0)) (.var 2) (.cst (.bl true))) [some (.tup (fs.map D.str)), some (.ref e), none] h = some (.dct (fs.map D.str) (fs.map fun _ => .bl true), h) := by
    have dl := dc_names (h := h) (k := ev P (run P n) (.var 2)) (v := ev P (run P n) (.cst (.bl true))) (j := 2) (δ := [some (.tup (fs.map D.str)), some (.ref e), none]) (fun f => by simp only [E_var, E_cst, E_glo, E_bin, E_cmp, chF_t, chF_f, E_chain, E_neg, E_and, E_or, E_not, E_ite, E_tup, E_lst, E_mlst, E_mdct, E_call, E_meth, E_prop, E_has, E_fld, E_bi, E_isi, E_idx, E_sl, E_slT, E_slH, E_stat, E_statK, E_dz, E_rev, E_callG, E_methK, E_make, E_makeK, E_dsp, E_inR, E_join, E_upd, E_app, Es_nil, Es_cons, I_seq, I_rng1, I_rng2, I_down, I_enum, I_zip, chO_t, chO_f, X_asg, X_asgF, X_asgI, X_augF, X_par, X_asgT, X_aug, X_expr, X_ret, X_retN, X_ite, X_pass, X_brk, X_cont, thnO_nx, thnO_rt, thnO_bk, thnO_ct, Xs_nil, Xs_cons, endO_nx, endO_rt, bi_lenT, bi_lenL, bi_tupL, bi_tupT, bi_lstT, bi_lstL, bi_int, bi_max, bi_min, bi_allB, bi_anyB, sl_tT, is_int, is_str, is_tup, is_bl, is_lst, look, put, setAll, wipeE, seqOf, boolOf, fget, fput, List.map_cons, List.map_nil, List.length_cons, List.length_nil, List.getElem?_cons_zero, List.getElem?_cons_succ, List.set_cons_zero, List.set_cons_succ, Option.getD_some, Option.bind_some, Option.map_some, List.cons_append, List.nil_append, List.replicate_zero, List.replicate_succ, ↓reduceIte, decide_true, decide_false, Nat.reduceEqDiff, Nat.reduceAdd, Nat.reduceSub, Nat.reduceLT, reduceCtorEq, Bool.not_true, Bool.not_false, Bool.or_false, Bool.or_true, Bool.false_or, Bool.true_or, o_add, o_sub, o_lt, o_le, o_gt, o_ge, o_eq, o_ne, o_isn, o_notn, back_same, nc0, nc1, nc2, nc3, nc4, nc5, nc6, nc7, nc8, nc9, nc10, nc11, nc12, nc20, beq_self_eq_true, Int.reduceEq, Int.reduceBEq, Int.reduceLT, Int.reduceLE, Int.reduceAdd, Int.reduceSub, Int.reduceNeg]) (fun f => by simp only [E_var, E_cst, E_glo, E_bin, E_cmp, chF_t, chF_f, E_chain, E_neg, E_and, E_or, E_not, E_ite, E_tup, E_lst, E_mlst, E_mdct, E_call, E_meth, E_prop, E_has, E_fld, E_bi, E_isi, E_idx, E_sl, E_slT, E_slH, E_stat, E_statK, E_dz, E_rev, E_callG, E_methK, E_make, E_makeK, E_dsp, E_inR, E_join, E_upd, E_app, Es_nil, Es_cons, I_seq, I_rng1, I_rng2, I_down, I_enum, I_zip, chO_t, chO_f, X_asg, X_asgF, X_asgI, X_augF, X_par, X_asgT, X_aug, X_expr, X_ret, X_retN, X_ite, X_pass, X_brk, X_cont, thnO_nx, thnO_rt, thnO_bk, thnO_ct, Xs_nil, Xs_cons, endO_nx, endO_rt, bi_lenT, bi_lenL, bi_tupL, bi_tupT, bi_lstT, bi_lstL, bi_int, bi_max, bi_min, bi_allB, bi_anyB, sl_tT, is_int, is_str, is_tup, is_bl, is_lst, look, put, setAll, wipeE, seqOf, boolOf, fget, fput, List.map_cons, List.map_nil, List.length_cons, List.length_nil, List.getElem?_cons_zero, List.getElem?_cons_succ, List.set_cons_zero, List.set_cons_succ, Option.getD_some, Option.bind_some, Option.map_some, List.cons_append, List.nil_append, List.replicate_zero, List.replicate_succ, ↓reduceIte, decide_true, decide_false, Nat.reduceEqDiff, Nat.reduceAdd, Nat.reduceSub, Nat.reduceLT, reduceCtorEq, Bool.not_true, Bool.not_false, Bool.or_false, Bool.or_true, Bool.false_or, Bool.true_or, o_add, o_sub, o_lt, o_le, o_gt, o_ge, o_eq, o_ne, o_isn, o_notn, back_same, nc0, nc1, nc2, nc3, nc4, nc5, nc6, nc7, nc8, nc9, nc10, nc11, nc12, nc20, beq_self_eq_true, Int.reduceEq, Int.reduceBEq, Int.reduceLT, Int.reduceLE, Int.reduceAdd, Int.reduceSub, Int.reduceNeg]) (fs := fs) (ks := []) (by simpa using nd)
    refine e_dc (xs := fs.map D.str) (h1 := h) ?_ (lim_big (by rw [List.length_map]; omega)) (by
      have := dl
      simp only [List.map_nil, List.nil_append] at this
      exact this)
    simp only [E_var, E_cst, E_glo, E_bin, E_cmp, chF_t, chF_f, E_chain, E_neg, E_and, E_or, E_not, E_ite, E_tup, E_lst, E_mlst, E_mdct, E_call, E_meth, E_prop, E_has, E_fld, E_bi, E_isi, E_idx, E_sl, E_slT, E_slH, E_stat, E_statK, E_dz, E_rev, E_callG, E_methK, E_make, E_makeK, E_dsp, E_inR, E_join, E_upd, E_app, Es_nil, Es_cons, I_seq, I_rng1, I_rng2, I_down, I_enum, I_zip, chO_t, chO_f, X_asg, X_asgF, X_asgI, X_augF, X_par, X_asgT, X_aug, X_expr, X_ret, X_retN, X_ite, X_pass, X_brk, X_cont, thnO_nx, thnO_rt, thnO_bk, thnO_ct, Xs_nil, Xs_cons, endO_nx, endO_rt, bi_lenT, bi_lenL, bi_tupL, bi_tupT, bi_lstT, bi_lstL, bi_int, bi_max, bi_min, bi_allB, bi_anyB, sl_tT, is_int, is_str, is_tup, is_bl, is_lst, look, put, setAll, wipeE, seqOf, boolOf, fget, fput, List.map_cons, List.map_nil, List.length_cons, List.length_nil, List.getElem?_cons_zero, List.getElem?_cons_succ, List.set_cons_zero, List.set_cons_succ, Option.getD_some, Option.bind_some, Option.map_some, List.cons_append, List.nil_append, List.replicate_zero, List.replicate_succ, ↓reduceIte, decide_true, decide_false, Nat.reduceEqDiff, Nat.reduceAdd, Nat.reduceSub, Nat.reduceLT, reduceCtorEq, Bool.not_true, Bool.not_false, Bool.or_false, Bool.or_true, Bool.false_or, Bool.true_or, o_add, o_sub, o_lt, o_le, o_gt, o_ge, o_eq, o_ne, o_isn, o_notn, back_same, nc0, nc1, nc2, nc3, nc4, nc5, nc6, nc7, nc8, nc9, nc10, nc11, nc12, nc20, beq_self_eq_true, Int.reduceEq, Int.reduceBEq, Int.reduceLT, Int.reduceLE, Int.reduceAdd, Int.reduceSub, Int.reduceNeg]
  have q1 : ¬ (3 : Int) < fs.length := by omega
  have al : (fs.map fun _ => true).all id = true := by simp
  simp only [E_var, E_cst, E_glo, E_bin, E_cmp, chF_t, chF_f, E_chain, E_neg, E_and, E_or, E_not, E_ite, E_tup, E_lst, E_mlst, E_mdct, E_call, E_meth, E_prop, E_has, E_fld, E_bi, E_isi, E_idx, E_sl, E_slT, E_slH, E_stat, E_statK, E_dz, E_rev, E_callG, E_methK, E_make, E_makeK, E_dsp, E_inR, E_join, E_upd, E_app, Es_nil, Es_cons, I_seq, I_rng1, I_rng2, I_down, I_enum, I_zip, chO_t, chO_f, X_asg, X_asgF, X_asgI, X_augF, X_par, X_asgT, X_aug, X_expr, X_ret, X_retN, X_ite, X_pass, X_brk, X_cont, thnO_nx, thnO_rt, thnO_bk, thnO_ct, Xs_nil, Xs_cons, endO_nx, endO_rt, bi_lenT, bi_lenL, bi_tupL, bi_tupT, bi_lstT, bi_lstL, bi_int, bi_max, bi_min, bi_allB, bi_anyB, sl_tT, is_int, is_str, is_tup, is_bl, is_lst, look, put, setAll, wipeE, seqOf, boolOf, fget, fput, List.map_cons, List.map_nil, List.length_cons, List.length_nil, List.getElem?_cons_zero, List.getElem?_cons_succ, List.set_cons_zero, List.set_cons_succ, Option.getD_some, Option.bind_some, Option.map_some, List.cons_append, List.nil_append, List.replicate_zero, List.replicate_succ, ↓reduceIte, decide_true, decide_false, Nat.reduceEqDiff, Nat.reduceAdd, Nat.reduceSub, Nat.reduceLT, reduceCtorEq, Bool.not_true, Bool.not_false, Bool.or_false, Bool.or_true, Bool.false_or, Bool.true_or, o_add, o_sub, o_lt, o_le, o_gt, o_ge, o_eq, o_ne, o_isn, o_notn, back_same, nc0, nc1, nc2, nc3, nc4, nc5, nc6, nc7, nc8, nc9, nc10, nc11, nc12, nc20, beq_self_eq_true, Int.reduceEq, Int.reduceBEq, Int.reduceLT, Int.reduceLE, Int.reduceAdd, Int.reduceSub, Int.reduceNeg, b14, lc, dc, bi_lenN, B.c 15 _ rfl, List.length_map, q1, al]
/-- is_task -/
theorem r_task (B : Bs P) (c : Cl h) (he : h[e]? = some (eD ns)) (ok : TkOk ns t) : run P (n + 25) 15 [t.d, .ref e] h = some (.bl true, h) := by
  rw [run_go (B.d 15 _ rfl) rfl]
  have a1 : (2 : Int) ≤ t.size ∧ (t.size : Int) ≤ 5 := ⟨by have := ok.lo; omega, by have := ok.hi; omega⟩
  have a2 : (1 : Int) ≤ t.rounds ∧ (t.rounds : Int) ≤ 60 := ⟨by have := ok.r1; omega, by have := ok.r2; omega⟩
  simp only [E_var, E_cst, E_glo, E_bin, E_cmp, chF_t, chF_f, E_chain, E_neg, E_and, E_or, E_not, E_ite, E_tup, E_lst, E_mlst, E_mdct, E_call, E_meth, E_prop, E_has, E_fld, E_bi, E_isi, E_idx, E_sl, E_slT, E_slH, E_stat, E_statK, E_dz, E_rev, E_callG, E_methK, E_make, E_makeK, E_dsp, E_inR, E_join, E_upd, E_app, Es_nil, Es_cons, I_seq, I_rng1, I_rng2, I_down, I_enum, I_zip, chO_t, chO_f, X_asg, X_asgF, X_asgI, X_augF, X_par, X_asgT, X_aug, X_expr, X_ret, X_retN, X_ite, X_pass, X_brk, X_cont, thnO_nx, thnO_rt, thnO_bk, thnO_ct, Xs_nil, Xs_cons, endO_nx, endO_rt, bi_lenT, bi_lenL, bi_tupL, bi_tupT, bi_lstT, bi_lstL, bi_int, bi_max, bi_min, bi_allB, bi_anyB, sl_tT, is_int, is_str, is_tup, is_bl, is_lst, look, put, setAll, wipeE, seqOf, boolOf, fget, fput, List.map_cons, List.map_nil, List.length_cons, List.length_nil, List.getElem?_cons_zero, List.getElem?_cons_succ, List.set_cons_zero, List.set_cons_succ, Option.getD_some, Option.bind_some, Option.map_some, List.cons_append, List.nil_append, List.replicate_zero, List.replicate_succ, ↓reduceIte, decide_true, decide_false, Nat.reduceEqDiff, Nat.reduceAdd, Nat.reduceSub, Nat.reduceLT, reduceCtorEq, Bool.not_true, Bool.not_false, Bool.or_false, Bool.or_true, Bool.false_or, Bool.true_or, o_add, o_sub, o_lt, o_le, o_gt, o_ge, o_eq, o_ne, o_isn, o_notn, back_same, nc0, nc1, nc2, nc3, nc4, nc5, nc6, nc7, nc8, nc9, nc10, nc11, nc12, nc20, beq_self_eq_true, Int.reduceEq, Int.reduceBEq, Int.reduceLT, Int.reduceLE, Int.reduceAdd, Int.reduceSub, Int.reduceNeg, b15, Tk.d, B.c 11 _ rfl, B.c 13 _ rfl, B.c 14 _ rfl, B.c 16 _ rfl, r_name B ok.nm, in_dict he, ok.new, r_between B, a1.1, a1.2, a2.1, a2.2, and_self, r_afeeds B he ok.few ok.fed ok.nd, r_letters B, List.length_map, r_rule B c ok.len]
  have : ruleR t.rule (letters t.feeds.length) ≠ .non := ok.rule
  cases hx : ruleR t.rule (letters t.feeds.length) <;> first | rfl | exact absurd hx this
theorem keys_eD : (ns.map D.str).all isKey = true := keys_names ns
theorem set_eD {f : List Nat} (he : h[e]? = some (eD ns)) (m : f ∉ ns) (few : ns.length ≤ 100) : setF h (.ref e) (.str f) (.bl true) = some (h.set e (eD (ns ++ [f]))) := by
  rw [set_dct he rfl (keys_names ns) (lim_big (by rw [List.length_map]; omega)), put_new m]
  simp [eD]
theorem cl_set {g : Hh} (c : Cl g) {x : Ob} (hx : Ob.low g.length x = true) : Cl (g.set l x) := by
  unfold Cl at c ⊢
  rw [List.length_set, List.all_eq_true]
  intro o ho
  rcases List.mem_or_eq_of_mem_set ho with q | q
  · exact List.all_eq_true.mp c o q
  · subst q; exact hx
theorem lows_str {k : Nat} : ∀ ns : List (List Nat), D.lows k (ns.map D.str) = true
  | [] => rfl
  | a :: ns => by simp [D.lows, D.low, lows_str ns]
theorem lows_tt {k : Nat} : ∀ ns : List (List Nat), D.lows k (ns.map fun _ => D.bl true) = true
  | [] => rfl
  | a :: ns => by simp [D.lows, D.low, lows_tt ns]
theorem low_eD {k : Nat} : Ob.low k (eD ns) = true := by
  show (D.lows k (ns.map D.str) && D.lows k (ns.map fun _ => .bl true)) = true
  rw [lows_str, lows_tt]; rfl
/-- is_graph's loop -/
theorem l_graph (B : Bs P) {d0 : D} : ∀ {ts : List Tk} {ns : List (List Nat)} {h : Hh} {x : Option D}, Cl h → h[e]? = some (eD ns) → GrOk ns ts → ns.length + ts.length ≤ 50 →
    ∃ x', forLoop (.nm 2) (exs P (run P (n + 25)) (.cons (.ite (.notV (.call 15 (.cons (.var 2) (.cons (.var 1) .nil)))) (.cons (.ret (.cst (.bl false))) .nil) .nil) (.cons (.asgI (.var 1) (.idx (.var 2) (.cst (.int 0))) (.cst (.bl true))) .nil))) (ts.map Tk.d) [some d0, some (.ref e), x] h
      = some (.nx [some d0, some (.ref e), x'] (h.set e (eD (ns ++ names ts))))
  | [], ns, h, x, c, he, _, _ => by
    refine ⟨x, ?_⟩
    have : h.set e (eD (ns ++ names [])) = h := by
      have h1 := (List.getElem?_eq_some_iff.mp he)
      obtain ⟨hl, h2⟩ := h1
      rw [names, List.map_nil, List.append_nil, ← h2]; simp
    rw [this]; rfl
  | t :: ts, ns, h, x, c, he, g, hn => by
    have hl := (List.getElem?_eq_some_iff.mp he).1
    obtain ⟨x', ih⟩ := l_graph B (d0 := d0) (ts := ts) (ns := ns ++ [t.nm]) (h := h.set e (eD (ns ++ [t.nm]))) (x := some t.d) (cl_set c low_eD) (List.getElem?_set_self hl) g.2 (by simp at hn ⊢; omega)
    refine ⟨x', ?_⟩
    rw [List.map_cons, for_nx (δ1 := [some d0, some (.ref e), some t.d]) (δ2 := [some d0, some (.ref e), some t.d]) (h2 := h.set e (eD (ns ++ [t.nm]))) rfl, ih]
    · simp [names]
    · simp only [E_var, E_cst, E_glo, E_bin, E_cmp, chF_t, chF_f, E_chain, E_neg, E_and, E_or, E_not, E_ite, E_tup, E_lst, E_mlst, E_mdct, E_call, E_meth, E_prop, E_has, E_fld, E_bi, E_isi, E_idx, E_sl, E_slT, E_slH, E_stat, E_statK, E_dz, E_rev, E_callG, E_methK, E_make, E_makeK, E_dsp, E_inR, E_join, E_upd, E_app, Es_nil, Es_cons, I_seq, I_rng1, I_rng2, I_down, I_enum, I_zip, chO_t, chO_f, X_asg, X_asgF, X_asgI, X_augF, X_par, X_asgT, X_aug, X_expr, X_ret, X_retN, X_ite, X_pass, X_brk, X_cont, thnO_nx, thnO_rt, thnO_bk, thnO_ct, Xs_nil, Xs_cons, endO_nx, endO_rt, bi_lenT, bi_lenL, bi_tupL, bi_tupT, bi_lstT, bi_lstL, bi_int, bi_max, bi_min, bi_allB, bi_anyB, sl_tT, is_int, is_str, is_tup, is_bl, is_lst, look, put, setAll, wipeE, seqOf, boolOf, fget, fput, List.map_cons, List.map_nil, List.length_cons, List.length_nil, List.getElem?_cons_zero, List.getElem?_cons_succ, List.set_cons_zero, List.set_cons_succ, Option.getD_some, Option.bind_some, Option.map_some, List.cons_append, List.nil_append, List.replicate_zero, List.replicate_succ, ↓reduceIte, decide_true, decide_false, Nat.reduceEqDiff, Nat.reduceAdd, Nat.reduceSub, Nat.reduceLT, reduceCtorEq, Bool.not_true, Bool.not_false, Bool.or_false, Bool.or_true, Bool.false_or, Bool.true_or, o_add, o_sub, o_lt, o_le, o_gt, o_ge, o_eq, o_ne, o_isn, o_notn, back_same, nc0, nc1, nc2, nc3, nc4, nc5, nc6, nc7, nc8, nc9, nc10, nc11, nc12, nc20, beq_self_eq_true, Int.reduceEq, Int.reduceBEq, Int.reduceLT, Int.reduceLE, Int.reduceAdd, Int.reduceSub, Int.reduceNeg, r_task B c he g.1, ix_d0, set_eD he g.1.new (show ns.length ≤ 100 by simp at hn; omega)]
theorem cl_app {g : Hh} (c : Cl g) {x : Ob} (hx : Ob.low (g.length + 1) x = true) (mono : ∀ o ∈ g, Ob.low (g.length + 1) o = true) : Cl (g ++ [x]) := by
  unfold Cl
  rw [List.length_append, List.length_singleton, List.all_append, Bool.and_eq_true]
  exact ⟨List.all_eq_true.mpr mono, by simpa using hx⟩
mutual
theorem low_mono {a b : Nat} (q : a ≤ b) : ∀ {d : D}, D.low a d = true → D.low b d = true
  | .non, _ => rfl
  | .bl _, _ => rfl
  | .int _, _ => rfl
  | .str _, _ => rfl
  | .ref l, z => by simp only [D.low, decide_eq_true_eq] at z ⊢; omega
  | .tup xs, z => by simp only [D.low] at z ⊢; exact lows_mono q z
  | .lst xs, z => by simp only [D.low] at z ⊢; exact lows_mono q z
  | .scr xs, z => by simp only [D.low] at z ⊢; exact lows_mono q z
  | .dct ks vs, z => by
    simp only [D.low, Bool.and_eq_true] at z ⊢
    exact ⟨lows_mono q z.1, lows_mono q z.2⟩
theorem lows_mono {a b : Nat} (q : a ≤ b) : ∀ {d : List D}, D.lows a d = true → D.lows b d = true
  | [], _ => rfl
  | x :: xs, z => by
    simp only [D.lows, Bool.and_eq_true] at z ⊢
    exact ⟨low_mono q z.1, lows_mono q z.2⟩
end
theorem ob_mono {a b : Nat} (q : a ≤ b) : ∀ {o : Ob}, Ob.low a o = true → Ob.low b o = true
  | .lst xs, z => lows_mono q z
  | .dct ks vs, z => by
    simp only [Ob.low, Bool.and_eq_true] at z ⊢
    exact ⟨lows_mono q z.1, lows_mono q z.2⟩
  | .ins c fs, z => by
    simp only [Ob.low, List.all_eq_true] at z ⊢
    exact fun p hp => low_mono q (z p hp)
theorem clApp {g : Hh} (c : Cl g) {x : Ob} (hx : Ob.low (g.length + 1) x = true) : Cl (g ++ [x]) := cl_app c hx fun o ho => ob_mono (Nat.le_succ _) (List.all_eq_true.mp c o ho)
/-- is_graph -/
theorem r_graph (B : Bs P) (c : Cl h) (g : GrOk [] ts) (h1 : 1 ≤ ts.length) (h2 : ts.length ≤ 20) : run P (n + 26) 16 [.tup (ts.map Tk.d)] h = some (.bl true, h) := by
  rw [run_go (B.d 16 _ rfl) rfl]
  have q1 : (1 : Int) ≤ ts.length := by omega
  have q2 : (ts.length : Int) ≤ 20 := by omega
  obtain ⟨x', lp⟩ := l_graph (n := n) (e := h.length) B (d0 := .tup (ts.map Tk.d)) (ts := ts) (ns := []) (h := h ++ [eD []]) (x := none) (clApp c low_eD) (app_at _ _) g (by simp; omega)
  rw [app_set] at lp
  have fl : ex P (run P (n + 25)) (.for (.nm 2) (.seq (.var 0)) (.cons (.ite (.notV (.call 15 (.cons (.var 2) (.cons (.var 1) .nil)))) (.cons (.ret (.cst (.bl false))) .nil) .nil) (.cons (.asgI (.var 1) (.idx (.var 2) (.cst (.int 0))) (.cst (.bl true))) .nil))) [some (.tup (ts.map Tk.d)), some (.ref h.length), none] (h ++ [.dct [] []]) = some (.nx [some (.tup (ts.map Tk.d)), some (.ref h.length), x'] (h ++ [eD ([] ++ names ts)])) := by
    refine x_for (xs := ts.map Tk.d) (h1 := h ++ [.dct [] []]) ?_ lp
    simp only [E_var, E_cst, E_glo, E_bin, E_cmp, chF_t, chF_f, E_chain, E_neg, E_and, E_or, E_not, E_ite, E_tup, E_lst, E_mlst, E_mdct, E_call, E_meth, E_prop, E_has, E_fld, E_bi, E_isi, E_idx, E_sl, E_slT, E_slH, E_stat, E_statK, E_dz, E_rev, E_callG, E_methK, E_make, E_makeK, E_dsp, E_inR, E_join, E_upd, E_app, Es_nil, Es_cons, I_seq, I_rng1, I_rng2, I_down, I_enum, I_zip, chO_t, chO_f, X_asg, X_asgF, X_asgI, X_augF, X_par, X_asgT, X_aug, X_expr, X_ret, X_retN, X_ite, X_pass, X_brk, X_cont, thnO_nx, thnO_rt, thnO_bk, thnO_ct, Xs_nil, Xs_cons, endO_nx, endO_rt, bi_lenT, bi_lenL, bi_tupL, bi_tupT, bi_lstT, bi_lstL, bi_int, bi_max, bi_min, bi_allB, bi_anyB, sl_tT, is_int, is_str, is_tup, is_bl, is_lst, look, put, setAll, wipeE, seqOf, boolOf, fget, fput, List.map_cons, List.map_nil, List.length_cons, List.length_nil, List.getElem?_cons_zero, List.getElem?_cons_succ, List.set_cons_zero, List.set_cons_succ, Option.getD_some, Option.bind_some, Option.map_some, List.cons_append, List.nil_append, List.replicate_zero, List.replicate_succ, ↓reduceIte, decide_true, decide_false, Nat.reduceEqDiff, Nat.reduceAdd, Nat.reduceSub, Nat.reduceLT, reduceCtorEq, Bool.not_true, Bool.not_false, Bool.or_false, Bool.or_true, Bool.false_or, Bool.true_or, o_add, o_sub, o_lt, o_le, o_gt, o_ge, o_eq, o_ne, o_isn, o_notn, back_same, nc0, nc1, nc2, nc3, nc4, nc5, nc6, nc7, nc8, nc9, nc10, nc11, nc12, nc20, beq_self_eq_true, Int.reduceEq, Int.reduceBEq, Int.reduceLT, Int.reduceLE, Int.reduceAdd, Int.reduceSub, Int.reduceNeg]
  simp only [E_var, E_cst, E_glo, E_bin, E_cmp, chF_t, chF_f, E_chain, E_neg, E_and, E_or, E_not, E_ite, E_tup, E_lst, E_mlst, E_mdct, E_call, E_meth, E_prop, E_has, E_fld, E_bi, E_isi, E_idx, E_sl, E_slT, E_slH, E_stat, E_statK, E_dz, E_rev, E_callG, E_methK, E_make, E_makeK, E_dsp, E_inR, E_join, E_upd, E_app, Es_nil, Es_cons, I_seq, I_rng1, I_rng2, I_down, I_enum, I_zip, chO_t, chO_f, X_asg, X_asgF, X_asgI, X_augF, X_par, X_asgT, X_aug, X_expr, X_ret, X_retN, X_ite, X_pass, X_brk, X_cont, thnO_nx, thnO_rt, thnO_bk, thnO_ct, Xs_nil, Xs_cons, endO_nx, endO_rt, bi_lenT, bi_lenL, bi_tupL, bi_tupT, bi_lstT, bi_lstL, bi_int, bi_max, bi_min, bi_allB, bi_anyB, sl_tT, is_int, is_str, is_tup, is_bl, is_lst, look, put, setAll, wipeE, seqOf, boolOf, fget, fput, List.map_cons, List.map_nil, List.length_cons, List.length_nil, List.getElem?_cons_zero, List.getElem?_cons_succ, List.set_cons_zero, List.set_cons_succ, Option.getD_some, Option.bind_some, Option.map_some, List.cons_append, List.nil_append, List.replicate_zero, List.replicate_succ, ↓reduceIte, decide_true, decide_false, Nat.reduceEqDiff, Nat.reduceAdd, Nat.reduceSub, Nat.reduceLT, reduceCtorEq, Bool.not_true, Bool.not_false, Bool.or_false, Bool.or_true, Bool.false_or, Bool.true_or, o_add, o_sub, o_lt, o_le, o_gt, o_ge, o_eq, o_ne, o_isn, o_notn, back_same, nc0, nc1, nc2, nc3, nc4, nc5, nc6, nc7, nc8, nc9, nc10, nc11, nc12, nc20, beq_self_eq_true, Int.reduceEq, Int.reduceBEq, Int.reduceLT, Int.reduceLE, Int.reduceAdd, Int.reduceSub, Int.reduceNeg, b16, fl, B.c 12 _ rfl, List.length_map, q1, q2, back_cut c (fr_of_flat (d := .bl true) rfl)]
/-! ### Graph(tasks) -/
theorem fr_tk (t : Tk) : Fr t.d := fun k => by
  show (true && (true && (D.lows k (t.feeds.map D.str) && (true && (true && true))))) = true
  rw [lows_str]; rfl
theorem lows_fr {α : Type} {f : α → D} {k : Nat} (hf : ∀ a, Fr (f a)) : ∀ xs : List α, D.lows k (xs.map f) = true
  | [] => rfl
  | a :: xs => by simp only [List.map_cons, D.lows, hf a k, lows_fr hf xs, Bool.and_self]
theorem lows_pl {k : Nat} : ∀ (ts : List Tk) (j : Nat), D.lows k (placesF j ts) = true
  | [], _ => rfl
  | a :: ts, j => by simp only [placesF, D.lows, D.low, lows_pl ts, Bool.and_self]
theorem fr_tree (t : Tk) : Fr (tree t) := rule_fr
theorem low_gob {k : Nat} : Ob.low k (gob ts) = true := by
  show (D.lows k (ts.map Tk.d) && ((D.lows k (ts.map fun t => D.str t.nm) && D.lows k (placesF 0 ts)) && (D.lows k (ts.map tree) && true))) = true
  rw [lows_fr fr_tk, lows_fr (fun t => fr_of_flat rfl), lows_pl, lows_fr fr_tree]; rfl
theorem dc_pl {k v : Ev → Hh → Option (D × Hh)} {x0 x1 : Option D} (hk : ∀ (j : Nat) (t : Tk), k [x0, x1, some (.int j), some t.d] h = some (.str t.nm, h)) (hv : ∀ (j : Nat) (t : Tk), v [x0, x1, some (.int j), some t.d] h = some (.int j, h)) : ∀ {ts : List Tk} {ks : List (List Nat)} {vs : List D} {j : Nat}, (ks ++ names ts).Nodup →
    dcLoop (.tp [2, 3]) k v [x0, x1, none, none] (enumL j (ts.map Tk.d)) (ks.map D.str, vs) h = some (((ks ++ names ts).map D.str, vs ++ placesF j ts), h)
  | [], ks, vs, j, _ => by simp [dcLoop, enumL, names, placesF]
  | t :: ts, ks, vs, j, nd => by
    have nd : (ks ++ t.nm :: names ts).Nodup := nd
    have m : t.nm ∉ ks := fun q => by
      have := List.nodup_append.mp nd
      exact this.2.2 t.nm q t.nm (by simp) rfl
    have ih := dc_pl hk hv (ts := ts) (ks := ks ++ [t.nm]) (vs := vs ++ [.int j]) (j := j + 1) (by simpa using nd)
    simp only [List.map_cons, enumL, dcLoop, put, setAll, List.set_cons_zero, List.set_cons_succ, Option.bind_some, hk, hv, isKey, if_true]
    rw [put_new m, ih]
    simp [names, placesF]
theorem ins_set {cc : Nat} {fs : List (Nat × D)} (hl : l < h.length) : insAt (h.set l (.ins cc fs)) (.ref l) = some (l, cc, fs) := by
  simp only [insAt, List.getElem?_set_self hl]
/-- Graph.__init__ -/
theorem r_init (B : Bs P) (c : Cl h) (hl : h[l]? = some (.ins 1 [])) (g : GrOk [] ts) (h1 : 1 ≤ ts.length) (h2 : ts.length ≤ 20) : run P (n + 27) 17 [.ref l, .tup (ts.map Tk.d)] h = some (.non, h.set l (gob ts)) := by
  rw [run_go (B.d 17 _ rfl) rfl]
  have lt := (List.getElem?_eq_some_iff.mp hl).1
  have i0 : insAt h (.ref l) = some (l, 1, []) := by simp only [insAt, hl]
  have H1 : Ob := .ins 1 [(5, .tup (ts.map Tk.d))]
  have dc : ∀ g : Hh, ev P (run P (n + 26)) (.dc (.tp [2, 3]) [2, 3] (.enum (.var 1)) (.idx (.var 3) (.cst (.int 0))) (.var 2)) [some (.ref l), some (.tup (ts.map Tk.d)), none, none] g = some (.dct (ts.map fun t => .str t.nm) (placesF 0 ts), g) := fun g' => by
    have dl := dc_pl (h := g') (k := ev P (run P (n + 26)) (.idx (.var 3) (.cst (.int 0)))) (v := ev P (run P (n + 26)) (.var 2)) (x0 := some (.ref l)) (x1 := some (.tup (ts.map Tk.d))) (fun j t => by simp only [E_var, E_cst, E_glo, E_bin, E_cmp, chF_t, chF_f, E_chain, E_neg, E_and, E_or, E_not, E_ite, E_tup, E_lst, E_mlst, E_mdct, E_call, E_meth, E_prop, E_has, E_fld, E_bi, E_isi, E_idx, E_sl, E_slT, E_slH, E_stat, E_statK, E_dz, E_rev, E_callG, E_methK, E_make, E_makeK, E_dsp, E_inR, E_join, E_upd, E_app, Es_nil, Es_cons, I_seq, I_rng1, I_rng2, I_down, I_enum, I_zip, chO_t, chO_f, X_asg, X_asgF, X_asgI, X_augF, X_par, X_asgT, X_aug, X_expr, X_ret, X_retN, X_ite, X_pass, X_brk, X_cont, thnO_nx, thnO_rt, thnO_bk, thnO_ct, Xs_nil, Xs_cons, endO_nx, endO_rt, bi_lenT, bi_lenL, bi_tupL, bi_tupT, bi_lstT, bi_lstL, bi_int, bi_max, bi_min, bi_allB, bi_anyB, sl_tT, is_int, is_str, is_tup, is_bl, is_lst, look, put, setAll, wipeE, seqOf, boolOf, fget, fput, List.map_cons, List.map_nil, List.length_cons, List.length_nil, List.getElem?_cons_zero, List.getElem?_cons_succ, List.set_cons_zero, List.set_cons_succ, Option.getD_some, Option.bind_some, Option.map_some, List.cons_append, List.nil_append, List.replicate_zero, List.replicate_succ, ↓reduceIte, decide_true, decide_false, Nat.reduceEqDiff, Nat.reduceAdd, Nat.reduceSub, Nat.reduceLT, reduceCtorEq, Bool.not_true, Bool.not_false, Bool.or_false, Bool.or_true, Bool.false_or, Bool.true_or, o_add, o_sub, o_lt, o_le, o_gt, o_ge, o_eq, o_ne, o_isn, o_notn, back_same, nc0, nc1, nc2, nc3, nc4, nc5, nc6, nc7, nc8, nc9, nc10, nc11, nc12, nc20, beq_self_eq_true, Int.reduceEq, Int.reduceBEq, Int.reduceLT, Int.reduceLE, Int.reduceAdd, Int.reduceSub, Int.reduceNeg, ix_d0]) (fun j t => by simp only [E_var, E_cst, E_glo, E_bin, E_cmp, chF_t, chF_f, E_chain, E_neg, E_and, E_or, E_not, E_ite, E_tup, E_lst, E_mlst, E_mdct, E_call, E_meth, E_prop, E_has, E_fld, E_bi, E_isi, E_idx, E_sl, E_slT, E_slH, E_stat, E_statK, E_dz, E_rev, E_callG, E_methK, E_make, E_makeK, E_dsp, E_inR, E_join, E_upd, E_app, Es_nil, Es_cons, I_seq, I_rng1, I_rng2, I_down, I_enum, I_zip, chO_t, chO_f, X_asg, X_asgF, X_asgI, X_augF, X_par, X_asgT, X_aug, X_expr, X_ret, X_retN, X_ite, X_pass, X_brk, X_cont, thnO_nx, thnO_rt, thnO_bk, thnO_ct, Xs_nil, Xs_cons, endO_nx, endO_rt, bi_lenT, bi_lenL, bi_tupL, bi_tupT, bi_lstT, bi_lstL, bi_int, bi_max, bi_min, bi_allB, bi_anyB, sl_tT, is_int, is_str, is_tup, is_bl, is_lst, look, put, setAll, wipeE, seqOf, boolOf, fget, fput, List.map_cons, List.map_nil, List.length_cons, List.length_nil, List.getElem?_cons_zero, List.getElem?_cons_succ, List.set_cons_zero, List.set_cons_succ, Option.getD_some, Option.bind_some, Option.map_some, List.cons_append, List.nil_append, List.replicate_zero, List.replicate_succ, ↓reduceIte, decide_true, decide_false, Nat.reduceEqDiff, Nat.reduceAdd, Nat.reduceSub, Nat.reduceLT, reduceCtorEq, Bool.not_true, Bool.not_false, Bool.or_false, Bool.or_true, Bool.false_or, Bool.true_or, o_add, o_sub, o_lt, o_le, o_gt, o_ge, o_eq, o_ne, o_isn, o_notn, back_same, nc0, nc1, nc2, nc3, nc4, nc5, nc6, nc7, nc8, nc9, nc10, nc11, nc12, nc20, beq_self_eq_true, Int.reduceEq, Int.reduceBEq, Int.reduceLT, Int.reduceLE, Int.reduceAdd, Int.reduceSub, Int.reduceNeg]) (ts := ts) (ks := []) (vs := []) (j := 0) (by simpa using g.nd.1)
    have e0 : (([] ++ names ts).map D.str, [] ++ placesF 0 ts) = (ts.map fun t => D.str t.nm, placesF 0 ts) := by simp [names]
    rw [e0] at dl
    refine e_dc (h1 := g') (xs := enumL 0 (ts.map Tk.d)) ?_ (lim_big ?_) dl
    · simp only [E_var, E_cst, E_glo, E_bin, E_cmp, chF_t, chF_f, E_chain, E_neg, E_and, E_or, E_not, E_ite, E_tup, E_lst, E_mlst, E_mdct, E_call, E_meth, E_prop, E_has, E_fld, E_bi, E_isi, E_idx, E_sl, E_slT, E_slH, E_stat, E_statK, E_dz, E_rev, E_callG, E_methK, E_make, E_makeK, E_dsp, E_inR, E_join, E_upd, E_app, Es_nil, Es_cons, I_seq, I_rng1, I_rng2, I_down, I_enum, I_zip, chO_t, chO_f, X_asg, X_asgF, X_asgI, X_augF, X_par, X_asgT, X_aug, X_expr, X_ret, X_retN, X_ite, X_pass, X_brk, X_cont, thnO_nx, thnO_rt, thnO_bk, thnO_ct, Xs_nil, Xs_cons, endO_nx, endO_rt, bi_lenT, bi_lenL, bi_tupL, bi_tupT, bi_lstT, bi_lstL, bi_int, bi_max, bi_min, bi_allB, bi_anyB, sl_tT, is_int, is_str, is_tup, is_bl, is_lst, look, put, setAll, wipeE, seqOf, boolOf, fget, fput, List.map_cons, List.map_nil, List.length_cons, List.length_nil, List.getElem?_cons_zero, List.getElem?_cons_succ, List.set_cons_zero, List.set_cons_succ, Option.getD_some, Option.bind_some, Option.map_some, List.cons_append, List.nil_append, List.replicate_zero, List.replicate_succ, ↓reduceIte, decide_true, decide_false, Nat.reduceEqDiff, Nat.reduceAdd, Nat.reduceSub, Nat.reduceLT, reduceCtorEq, Bool.not_true, Bool.not_false, Bool.or_false, Bool.or_true, Bool.false_or, Bool.true_or, o_add, o_sub, o_lt, o_le, o_gt, o_ge, o_eq, o_ne, o_isn, o_notn, back_same, nc0, nc1, nc2, nc3, nc4, nc5, nc6, nc7, nc8, nc9, nc10, nc11, nc12, nc20, beq_self_eq_true, Int.reduceEq, Int.reduceBEq, Int.reduceLT, Int.reduceLE, Int.reduceAdd, Int.reduceSub, Int.reduceNeg]
    · have : ∀ (xs : List D) (j : Nat), (enumL j xs).length = xs.length := fun xs => by
        induction xs with
        | nil => intro j; rfl
        | cons a xs ih => intro j; simp [enumL, ih]
      rw [this, List.length_map]; omega
  have lc : ∀ g' : Hh, Cl g' → ev P (run P (n + 26)) (.lc (.nm 3) [3] (.seq (.var 1)) (.cst (.bl true)) (.call 9 (.cons (.idx (.var 3) (.cst (.int 4))) (.cons (.call 0 (.cons (.bi .len (.cons (.idx (.var 3) (.cst (.int 2))) .nil)) .nil)) .nil)))) [some (.ref l), some (.tup (ts.map Tk.d)), none, none] g' = some (.lst (ts.map tree), g') := fun g' cg => by
    refine e_lc (xs := ts.map Tk.d) (h1 := g') (by simp only [E_var, E_cst, E_glo, E_bin, E_cmp, chF_t, chF_f, E_chain, E_neg, E_and, E_or, E_not, E_ite, E_tup, E_lst, E_mlst, E_mdct, E_call, E_meth, E_prop, E_has, E_fld, E_bi, E_isi, E_idx, E_sl, E_slT, E_slH, E_stat, E_statK, E_dz, E_rev, E_callG, E_methK, E_make, E_makeK, E_dsp, E_inR, E_join, E_upd, E_app, Es_nil, Es_cons, I_seq, I_rng1, I_rng2, I_down, I_enum, I_zip, chO_t, chO_f, X_asg, X_asgF, X_asgI, X_augF, X_par, X_asgT, X_aug, X_expr, X_ret, X_retN, X_ite, X_pass, X_brk, X_cont, thnO_nx, thnO_rt, thnO_bk, thnO_ct, Xs_nil, Xs_cons, endO_nx, endO_rt, bi_lenT, bi_lenL, bi_tupL, bi_tupT, bi_lstT, bi_lstL, bi_int, bi_max, bi_min, bi_allB, bi_anyB, sl_tT, is_int, is_str, is_tup, is_bl, is_lst, look, put, setAll, wipeE, seqOf, boolOf, fget, fput, List.map_cons, List.map_nil, List.length_cons, List.length_nil, List.getElem?_cons_zero, List.getElem?_cons_succ, List.set_cons_zero, List.set_cons_succ, Option.getD_some, Option.bind_some, Option.map_some, List.cons_append, List.nil_append, List.replicate_zero, List.replicate_succ, ↓reduceIte, decide_true, decide_false, Nat.reduceEqDiff, Nat.reduceAdd, Nat.reduceSub, Nat.reduceLT, reduceCtorEq, Bool.not_true, Bool.not_false, Bool.or_false, Bool.or_true, Bool.false_or, Bool.true_or, o_add, o_sub, o_lt, o_le, o_gt, o_ge, o_eq, o_ne, o_isn, o_notn, back_same, nc0, nc1, nc2, nc3, nc4, nc5, nc6, nc7, nc8, nc9, nc10, nc11, nc12, nc20, beq_self_eq_true, Int.reduceEq, Int.reduceBEq, Int.reduceLT, Int.reduceLE, Int.reduceAdd, Int.reduceSub, Int.reduceNeg]) (lim_big (by rw [List.length_map]; omega)) (lc_fun Tk.d tree fun t ht => ⟨[some (.ref l), some (.tup (ts.map Tk.d)), none, some t.d], rfl, E_cst, ?_⟩)
    obtain ⟨i, hi⟩ := List.getElem?_of_mem ht
    simp only [E_var, E_cst, E_glo, E_bin, E_cmp, chF_t, chF_f, E_chain, E_neg, E_and, E_or, E_not, E_ite, E_tup, E_lst, E_mlst, E_mdct, E_call, E_meth, E_prop, E_has, E_fld, E_bi, E_isi, E_idx, E_sl, E_slT, E_slH, E_stat, E_statK, E_dz, E_rev, E_callG, E_methK, E_make, E_makeK, E_dsp, E_inR, E_join, E_upd, E_app, Es_nil, Es_cons, I_seq, I_rng1, I_rng2, I_down, I_enum, I_zip, chO_t, chO_f, X_asg, X_asgF, X_asgI, X_augF, X_par, X_asgT, X_aug, X_expr, X_ret, X_retN, X_ite, X_pass, X_brk, X_cont, thnO_nx, thnO_rt, thnO_bk, thnO_ct, Xs_nil, Xs_cons, endO_nx, endO_rt, bi_lenT, bi_lenL, bi_tupL, bi_tupT, bi_lstT, bi_lstL, bi_int, bi_max, bi_min, bi_allB, bi_anyB, sl_tT, is_int, is_str, is_tup, is_bl, is_lst, look, put, setAll, wipeE, seqOf, boolOf, fget, fput, List.map_cons, List.map_nil, List.length_cons, List.length_nil, List.getElem?_cons_zero, List.getElem?_cons_succ, List.set_cons_zero, List.set_cons_succ, Option.getD_some, Option.bind_some, Option.map_some, List.cons_append, List.nil_append, List.replicate_zero, List.replicate_succ, ↓reduceIte, decide_true, decide_false, Nat.reduceEqDiff, Nat.reduceAdd, Nat.reduceSub, Nat.reduceLT, reduceCtorEq, Bool.not_true, Bool.not_false, Bool.or_false, Bool.or_true, Bool.false_or, Bool.true_or, o_add, o_sub, o_lt, o_le, o_gt, o_ge, o_eq, o_ne, o_isn, o_notn, back_same, nc0, nc1, nc2, nc3, nc4, nc5, nc6, nc7, nc8, nc9, nc10, nc11, nc12, nc20, beq_self_eq_true, Int.reduceEq, Int.reduceBEq, Int.reduceLT, Int.reduceLE, Int.reduceAdd, Int.reduceSub, Int.reduceNeg, ix_d4, ix_d2, r_letters B, List.length_map, r_rule B cg (g.at hi).len, tree]
  have c2 : Cl (h.set l (.ins 1 [(5, .tup (ts.map Tk.d)), (6, .dct (ts.map fun t => .str t.nm) (placesF 0 ts))])) := cl_set c (by
    show (D.lows _ (ts.map Tk.d) && ((D.lows _ (ts.map fun t => D.str t.nm) && D.lows _ (placesF 0 ts)) && true)) = true
    rw [lows_fr fr_tk, lows_fr (fun t => fr_of_flat rfl), lows_pl]; rfl)
  simp only [E_var, E_cst, E_glo, E_bin, E_cmp, chF_t, chF_f, E_chain, E_neg, E_and, E_or, E_not, E_ite, E_tup, E_lst, E_mlst, E_mdct, E_call, E_meth, E_prop, E_has, E_fld, E_bi, E_isi, E_idx, E_sl, E_slT, E_slH, E_stat, E_statK, E_dz, E_rev, E_callG, E_methK, E_make, E_makeK, E_dsp, E_inR, E_join, E_upd, E_app, Es_nil, Es_cons, I_seq, I_rng1, I_rng2, I_down, I_enum, I_zip, chO_t, chO_f, X_asg, X_asgF, X_asgI, X_augF, X_par, X_asgT, X_aug, X_expr, X_ret, X_retN, X_ite, X_pass, X_brk, X_cont, thnO_nx, thnO_rt, thnO_bk, thnO_ct, Xs_nil, Xs_cons, endO_nx, endO_rt, bi_lenT, bi_lenL, bi_tupL, bi_tupT, bi_lstT, bi_lstL, bi_int, bi_max, bi_min, bi_allB, bi_anyB, sl_tT, is_int, is_str, is_tup, is_bl, is_lst, look, put, setAll, wipeE, seqOf, boolOf, fget, fput, List.map_cons, List.map_nil, List.length_cons, List.length_nil, List.getElem?_cons_zero, List.getElem?_cons_succ, List.set_cons_zero, List.set_cons_succ, Option.getD_some, Option.bind_some, Option.map_some, List.cons_append, List.nil_append, List.replicate_zero, List.replicate_succ, ↓reduceIte, decide_true, decide_false, Nat.reduceEqDiff, Nat.reduceAdd, Nat.reduceSub, Nat.reduceLT, reduceCtorEq, Bool.not_true, Bool.not_false, Bool.or_false, Bool.or_true, Bool.false_or, Bool.true_or, o_add, o_sub, o_lt, o_le, o_gt, o_ge, o_eq, o_ne, o_isn, o_notn, back_same, nc0, nc1, nc2, nc3, nc4, nc5, nc6, nc7, nc8, nc9, nc10, nc11, nc12, nc20, beq_self_eq_true, Int.reduceEq, Int.reduceBEq, Int.reduceLT, Int.reduceLE, Int.reduceAdd, Int.reduceSub, Int.reduceNeg, b17, r_graph B c g h1 h2, i0, ins_set lt, dc, List.set_set, lc _ c2, and_self, gob]
  exact back_same (by simp)
theorem app_set0 {x y : Ob} : (h ++ [x]).set h.length y = h ++ [y] := by simp
theorem e_graph (B : Bs P) {δ : Ev} {a : E} (c : Cl h) (ha : ev P (run P (n + 27)) a δ h = some (.tup (ts.map Tk.d), h)) (g : GrOk [] ts) (h1 : 1 ≤ ts.length) (h2 : ts.length ≤ 20) : ev P (run P (n + 27)) (.make 17 (.cons a .nil)) δ h = some (.ref h.length, h ++ [gob ts]) := by
  refine e_make (es_cons ha es_nil) (B.d 17 _ rfl) rfl ((r_init B (clApp c rfl) (app_at _ _) g h1 h2).trans ?_)
  rw [app_set0]
end
end GB

/-! trees of rules, what they are worth; led_on, state, run -/
namespace GB
open VI
inductive Tr where
  | num (i : Nat) | ltr (c : Nat) | op (c : Nat) (a b : Tr)
def Tr.d : Tr → D
  | .num i => .tup [.str [110, 117, 109, 98, 101, 114], .int i]
  | .ltr c => .tup [.str [108, 101, 116, 116, 101, 114], .str [c]]
  | .op c a b => .tup [.str [c], a.d, b.d]
def Tr.val (ρ : Nat → Int) : Tr → Int
  | .num i => i
  | .ltr c => ρ c
  | .op c a b => if c = 42 then a.val ρ * b.val ρ else if c = 43 then a.val ρ + b.val ρ else a.val ρ - b.val ρ
/-- a tree that takes k signs at most -/
inductive Wt (ls : List Nat) : Tr → Nat → Prop
  | num {i k : Nat} : i < 10 ^ k → 1 ≤ k → Wt ls (.num i) k
  | ltr {c k : Nat} : c ∈ ls → 1 ≤ k → Wt ls (.ltr c) k
  | op {c k m q : Nat} {a b : Tr} : (c = 42 ∨ c = 43 ∨ c = 45) → Wt ls a k → Wt ls b m → k + 1 + m ≤ q → Wt ls (.op c a b) q
theorem Wt.mono {ls : List Nat} {t : Tr} {k m : Nat} (w : Wt ls t k) (h : k ≤ m) : Wt ls t m := by
  cases w with
  | num h1 h2 => exact .num (Nat.lt_of_lt_of_le h1 (Nat.pow_le_pow_right (by decide) h)) (by omega)
  | ltr h1 h2 => exact .ltr h1 (by omega)
  | op h1 h2 h3 h4 => exact .op h1 h2 h3 (by omega)
theorem Wt.pos {ls : List Nat} {t : Tr} {k : Nat} (w : Wt ls t k) : 1 ≤ k := by
  cases w with
  | num h1 h2 => exact h2
  | ltr h1 h2 => exact h2
  | op h1 h2 h3 h4 => omega
theorem pow_add_le {k m q : Nat} (h : k + 1 + m ≤ q) : 10 ^ k + 10 ^ m ≤ 10 ^ q := by
  have h1 : 10 ^ (k + 1 + m) ≤ 10 ^ q := Nat.pow_le_pow_right (by decide) h
  have h2 : 10 ^ (k + 1 + m) = 10 ^ k * 10 * 10 ^ m := by rw [Nat.pow_add, Nat.pow_succ]
  have a : 1 ≤ 10 ^ k := Nat.one_le_pow _ _ (by decide)
  have b : 1 ≤ 10 ^ m := Nat.one_le_pow _ _ (by decide)
  have h3 : 10 ^ k ≤ 10 ^ k * 10 ^ m := Nat.le_mul_of_pos_right _ b
  have h4 : 10 ^ m ≤ 10 ^ k * 10 ^ m := Nat.le_mul_of_pos_left _ a
  have h5 : 10 ^ k * 10 * 10 ^ m = 10 * (10 ^ k * 10 ^ m) := by rw [Nat.mul_comm (10 ^ k) 10, Nat.mul_assoc]
  omega
theorem Wt.mag {ls : List Nat} {ρ : Nat → Int} (hρ : ∀ c ∈ ls, (ρ c).natAbs < 10) : ∀ {t : Tr} {k : Nat}, Wt ls t k → (t.val ρ).natAbs < 10 ^ k
  | .num i, k, .num h1 h2 => by simpa [Tr.val] using h1
  | .ltr c, k, .ltr h1 h2 => by
    have := hρ c h1
    have h3 : 10 ^ 1 ≤ 10 ^ k := Nat.pow_le_pow_right (by decide) h2
    simp only [Tr.val]; omega
  | .op c a b, q, @Wt.op _ _ k m _ _ _ h1 h2 h3 h4 => by
    have i1 := Wt.mag hρ h2
    have i2 := Wt.mag hρ h3
    have s := pow_add_le h4
    simp only [Tr.val]
    split
    · rw [Int.natAbs_mul]
      have : (a.val ρ).natAbs * (b.val ρ).natAbs < 10 ^ k * 10 ^ m := Nat.mul_lt_mul'' i1 i2
      rw [← Nat.pow_add] at this
      exact Nat.lt_of_lt_of_le this (Nat.pow_le_pow_right (by decide) (by omega))
    · split
      · have := Int.natAbs_add_le (a.val ρ) (b.val ρ); omega
      · have := Int.natAbs_sub_le (a.val ρ) (b.val ρ); omega
theorem small_mag {i : Int} {k : Nat} (h : i.natAbs < 10 ^ k) (hk : k ≤ 19) : small i = true := by
  have : 10 ^ k ≤ 10 ^ 19 := Nat.pow_le_pow_right (by decide) hk
  exact Nat.blt_eq.mpr (by omega)
section
variable {P : Pg} {n l i d : Nat} {h : Hh} {ts : List Tk} {t : Tk} {ls : List Nat} {ρ : Nat → Int} {ks vs : List D}
theorem ix_cell {c : Nat} {v : D} (hd : h[d]? = some (.dct ks vs)) (hk : ks.all isKey = true) (e : keyAt (.str [c]) ks vs = some v) : idxF h (.ref d) (.str [c]) = some v := by
  show idxO h (.ref d) (.str [c]) = _
  simp only [idxO, lstOf, dctOf, hd]
  rw [hk, e]; rfl
theorem ix3_0 {a b c : D} : idxF h (.tup [a, b, c]) (.int 0) = some a := rfl
theorem ix3_1 {a b c : D} : idxF h (.tup [a, b, c]) (.int 1) = some b := rfl
theorem ix3_2 {a b c : D} : idxF h (.tup [a, b, c]) (.int 2) = some c := rfl
theorem ix2_0 {a b : D} : idxF h (.tup [a, b]) (.int 0) = some a := rfl
theorem ix2_1 {a b : D} : idxF h (.tup [a, b]) (.int 1) = some b := rfl
theorem o_eqS {a b : List Nat} : op2 h .eq (.str a) (.str b) = some (.bl (a == b)) := rfl
/-- worth -/
theorem r_worth (B : Bs P) (hd : h[d]? = some (.dct ks vs)) (hk : ks.all isKey = true) (hρ : ∀ c ∈ ls, keyAt (.str [c]) ks vs = some (.int (ρ c)) ∧ (ρ c).natAbs < 10) :
    ∀ {t : Tr} {k : Nat}, Wt ls t k → k ≤ 40 → ∀ n, run P (n + k) 10 [t.d, .ref d] h = some (.int (t.val ρ), h)
  | .num i, k + 1, .num h1 h2, _, n => by
    rw [← Nat.add_assoc, run_go (B.d 10 _ rfl) rfl]
    have q : (([110, 117, 109, 98, 101, 114] : List Nat) == [110, 117, 109, 98, 101, 114]) = true := rfl
    simp only [E_var, E_cst, E_glo, E_bin, E_cmp, chF_t, chF_f, E_chain, E_neg, E_and, E_or, E_not, E_ite, E_tup, E_lst, E_mlst, E_mdct, E_call, E_meth, E_prop, E_has, E_fld, E_bi, E_isi, E_idx, E_sl, E_slT, E_slH, E_stat, E_statK, E_dz, E_rev, E_callG, E_methK, E_make, E_makeK, E_dsp, E_inR, E_join, E_upd, E_app, Es_nil, Es_cons, I_seq, I_rng1, I_rng2, I_down, I_enum, I_zip, chO_t, chO_f, X_asg, X_asgF, X_asgI, X_augF, X_par, X_asgT, X_aug, X_expr, X_ret, X_retN, X_ite, X_pass, X_brk, X_cont, thnO_nx, thnO_rt, thnO_bk, thnO_ct, Xs_nil, Xs_cons, endO_nx, endO_rt, bi_lenT, bi_lenL, bi_tupL, bi_tupT, bi_lstT, bi_lstL, bi_int, bi_max, bi_min, bi_allB, bi_anyB, sl_tT, is_int, is_str, is_tup, is_bl, is_lst, look, put, setAll, wipeE, seqOf, boolOf, fget, fput, List.map_cons, List.map_nil, List.length_cons, List.length_nil, List.getElem?_cons_zero, List.getElem?_cons_succ, List.set_cons_zero, List.set_cons_succ, Option.getD_some, Option.bind_some, Option.map_some, List.cons_append, List.nil_append, List.replicate_zero, List.replicate_succ, ↓reduceIte, decide_true, decide_false, Nat.reduceEqDiff, Nat.reduceAdd, Nat.reduceSub, Nat.reduceLT, reduceCtorEq, Bool.not_true, Bool.not_false, Bool.or_false, Bool.or_true, Bool.false_or, Bool.true_or, o_add, o_sub, o_lt, o_le, o_gt, o_ge, o_eq, o_ne, o_isn, o_notn, back_same, nc0, nc1, nc2, nc3, nc4, nc5, nc6, nc7, nc8, nc9, nc10, nc11, nc12, nc20, beq_self_eq_true, Int.reduceEq, Int.reduceBEq, Int.reduceLT, Int.reduceLE, Int.reduceAdd, Int.reduceSub, Int.reduceNeg, b10, Tr.d, ix2_0, ix2_1, B.c 6 _ rfl, o_eqS, q, Tr.val]
  | .ltr c, k + 1, .ltr h1 h2, _, n => by
    rw [← Nat.add_assoc, run_go (B.d 10 _ rfl) rfl]
    have q1 : (([108, 101, 116, 116, 101, 114] : List Nat) == [110, 117, 109, 98, 101, 114]) = false := rfl
    have q2 : (([108, 101, 116, 116, 101, 114] : List Nat) == [108, 101, 116, 116, 101, 114]) = true := rfl
    simp only [E_var, E_cst, E_glo, E_bin, E_cmp, chF_t, chF_f, E_chain, E_neg, E_and, E_or, E_not, E_ite, E_tup, E_lst, E_mlst, E_mdct, E_call, E_meth, E_prop, E_has, E_fld, E_bi, E_isi, E_idx, E_sl, E_slT, E_slH, E_stat, E_statK, E_dz, E_rev, E_callG, E_methK, E_make, E_makeK, E_dsp, E_inR, E_join, E_upd, E_app, Es_nil, Es_cons, I_seq, I_rng1, I_rng2, I_down, I_enum, I_zip, chO_t, chO_f, X_asg, X_asgF, X_asgI, X_augF, X_par, X_asgT, X_aug, X_expr, X_ret, X_retN, X_ite, X_pass, X_brk, X_cont, thnO_nx, thnO_rt, thnO_bk, thnO_ct, Xs_nil, Xs_cons, endO_nx, endO_rt, bi_lenT, bi_lenL, bi_tupL, bi_tupT, bi_lstT, bi_lstL, bi_int, bi_max, bi_min, bi_allB, bi_anyB, sl_tT, is_int, is_str, is_tup, is_bl, is_lst, look, put, setAll, wipeE, seqOf, boolOf, fget, fput, List.map_cons, List.map_nil, List.length_cons, List.length_nil, List.getElem?_cons_zero, List.getElem?_cons_succ, List.set_cons_zero, List.set_cons_succ, Option.getD_some, Option.bind_some, Option.map_some, List.cons_append, List.nil_append, List.replicate_zero, List.replicate_succ, ↓reduceIte, decide_true, decide_false, Nat.reduceEqDiff, Nat.reduceAdd, Nat.reduceSub, Nat.reduceLT, reduceCtorEq, Bool.not_true, Bool.not_false, Bool.or_false, Bool.or_true, Bool.false_or, Bool.true_or, o_add, o_sub, o_lt, o_le, o_gt, o_ge, o_eq, o_ne, o_isn, o_notn, back_same, nc0, nc1, nc2, nc3, nc4, nc5, nc6, nc7, nc8, nc9, nc10, nc11, nc12, nc20, beq_self_eq_true, Int.reduceEq, Int.reduceBEq, Int.reduceLT, Int.reduceLE, Int.reduceAdd, Int.reduceSub, Int.reduceNeg, b10, Tr.d, ix2_0, ix2_1, B.c 6 _ rfl, B.c 7 _ rfl, o_eqS, q1, q2, Tr.val, ix_cell hd hk (hρ c h1).1]
  | .op c a b, q + 1, @Wt.op _ _ k m _ _ _ h1 h2 h3 h4, hq, n => by
    have w1 := r_worth B hd hk hρ h2 (by omega) (n + q - k)
    have w2 := r_worth B hd hk hρ h3 (by omega) (n + q - m)
    rw [show n + q - k + k = n + q by omega] at w1
    rw [show n + q - m + m = n + q by omega] at w2
    have mg : ∀ c ∈ ls, (ρ c).natAbs < 10 := fun c hc => (hρ c hc).2
    rw [← Nat.add_assoc, run_go (B.d 10 _ rfl) rfl]
    have sm : op2 h .mul (.int (a.val ρ)) (.int (b.val ρ)) = some (.int (a.val ρ * b.val ρ)) := by
      by_cases hk : k ≤ 19
      · exact o_mulL (small_mag (h2.mag mg) hk)
      · exact o_mulR (small_mag (h3.mag mg) (by omega))
    rcases h1 with rfl | rfl | rfl
    · have q1 : (([42] : List Nat) == [110, 117, 109, 98, 101, 114]) = false := rfl
      have q2 : (([42] : List Nat) == [108, 101, 116, 116, 101, 114]) = false := rfl
      have q3 : (([42] : List Nat) == [42]) = true := rfl
      simp only [E_var, E_cst, E_glo, E_bin, E_cmp, chF_t, chF_f, E_chain, E_neg, E_and, E_or, E_not, E_ite, E_tup, E_lst, E_mlst, E_mdct, E_call, E_meth, E_prop, E_has, E_fld, E_bi, E_isi, E_idx, E_sl, E_slT, E_slH, E_stat, E_statK, E_dz, E_rev, E_callG, E_methK, E_make, E_makeK, E_dsp, E_inR, E_join, E_upd, E_app, Es_nil, Es_cons, I_seq, I_rng1, I_rng2, I_down, I_enum, I_zip, chO_t, chO_f, X_asg, X_asgF, X_asgI, X_augF, X_par, X_asgT, X_aug, X_expr, X_ret, X_retN, X_ite, X_pass, X_brk, X_cont, thnO_nx, thnO_rt, thnO_bk, thnO_ct, Xs_nil, Xs_cons, endO_nx, endO_rt, bi_lenT, bi_lenL, bi_tupL, bi_tupT, bi_lstT, bi_lstL, bi_int, bi_max, bi_min, bi_allB, bi_anyB, sl_tT, is_int, is_str, is_tup, is_bl, is_lst, look, put, setAll, wipeE, seqOf, boolOf, fget, fput, List.map_cons, List.map_nil, List.length_cons, List.length_nil, List.getElem?_cons_zero, List.getElem?_cons_succ, List.set_cons_zero, List.set_cons_succ, Option.getD_some, Option.bind_some, Option.map_some, List.cons_append, List.nil_append, List.replicate_zero, List.replicate_succ, ↓reduceIte, decide_true, decide_false, Nat.reduceEqDiff, Nat.reduceAdd, Nat.reduceSub, Nat.reduceLT, reduceCtorEq, Bool.not_true, Bool.not_false, Bool.or_false, Bool.or_true, Bool.false_or, Bool.true_or, o_add, o_sub, o_lt, o_le, o_gt, o_ge, o_eq, o_ne, o_isn, o_notn, back_same, nc0, nc1, nc2, nc3, nc4, nc5, nc6, nc7, nc8, nc9, nc10, nc11, nc12, nc20, beq_self_eq_true, Int.reduceEq, Int.reduceBEq, Int.reduceLT, Int.reduceLE, Int.reduceAdd, Int.reduceSub, Int.reduceNeg, b10, Tr.d, ix3_0, ix3_1, ix3_2, B.c 6 _ rfl, B.c 7 _ rfl, o_eqS, q1, q2, q3, w1, w2, sm, Tr.val]
    · have q1 : (([43] : List Nat) == [110, 117, 109, 98, 101, 114]) = false := rfl
      have q2 : (([43] : List Nat) == [108, 101, 116, 116, 101, 114]) = false := rfl
      have q3 : (([43] : List Nat) == [42]) = false := rfl
      have q4 : (([43] : List Nat) == [43]) = true := rfl
      simp only [E_var, E_cst, E_glo, E_bin, E_cmp, chF_t, chF_f, E_chain, E_neg, E_and, E_or, E_not, E_ite, E_tup, E_lst, E_mlst, E_mdct, E_call, E_meth, E_prop, E_has, E_fld, E_bi, E_isi, E_idx, E_sl, E_slT, E_slH, E_stat, E_statK, E_dz, E_rev, E_callG, E_methK, E_make, E_makeK, E_dsp, E_inR, E_join, E_upd, E_app, Es_nil, Es_cons, I_seq, I_rng1, I_rng2, I_down, I_enum, I_zip, chO_t, chO_f, X_asg, X_asgF, X_asgI, X_augF, X_par, X_asgT, X_aug, X_expr, X_ret, X_retN, X_ite, X_pass, X_brk, X_cont, thnO_nx, thnO_rt, thnO_bk, thnO_ct, Xs_nil, Xs_cons, endO_nx, endO_rt, bi_lenT, bi_lenL, bi_tupL, bi_tupT, bi_lstT, bi_lstL, bi_int, bi_max, bi_min, bi_allB, bi_anyB, sl_tT, is_int, is_str, is_tup, is_bl, is_lst, look, put, setAll, wipeE, seqOf, boolOf, fget, fput, List.map_cons, List.map_nil, List.length_cons, List.length_nil, List.getElem?_cons_zero, List.getElem?_cons_succ, List.set_cons_zero, List.set_cons_succ, Option.getD_some, Option.bind_some, Option.map_some, List.cons_append, List.nil_append, List.replicate_zero, List.replicate_succ, ↓reduceIte, decide_true, decide_false, Nat.reduceEqDiff, Nat.reduceAdd, Nat.reduceSub, Nat.reduceLT, reduceCtorEq, Bool.not_true, Bool.not_false, Bool.or_false, Bool.or_true, Bool.false_or, Bool.true_or, o_add, o_sub, o_lt, o_le, o_gt, o_ge, o_eq, o_ne, o_isn, o_notn, back_same, nc0, nc1, nc2, nc3, nc4, nc5, nc6, nc7, nc8, nc9, nc10, nc11, nc12, nc20, beq_self_eq_true, Int.reduceEq, Int.reduceBEq, Int.reduceLT, Int.reduceLE, Int.reduceAdd, Int.reduceSub, Int.reduceNeg, b10, Tr.d, ix3_0, ix3_1, ix3_2, B.c 6 _ rfl, B.c 7 _ rfl, o_eqS, q1, q2, q3, q4, w1, w2, Tr.val]
    · have q1 : (([45] : List Nat) == [110, 117, 109, 98, 101, 114]) = false := rfl
      have q2 : (([45] : List Nat) == [108, 101, 116, 116, 101, 114]) = false := rfl
      have q3 : (([45] : List Nat) == [42]) = false := rfl
      have q4 : (([45] : List Nat) == [43]) = false := rfl
      simp only [E_var, E_cst, E_glo, E_bin, E_cmp, chF_t, chF_f, E_chain, E_neg, E_and, E_or, E_not, E_ite, E_tup, E_lst, E_mlst, E_mdct, E_call, E_meth, E_prop, E_has, E_fld, E_bi, E_isi, E_idx, E_sl, E_slT, E_slH, E_stat, E_statK, E_dz, E_rev, E_callG, E_methK, E_make, E_makeK, E_dsp, E_inR, E_join, E_upd, E_app, Es_nil, Es_cons, I_seq, I_rng1, I_rng2, I_down, I_enum, I_zip, chO_t, chO_f, X_asg, X_asgF, X_asgI, X_augF, X_par, X_asgT, X_aug, X_expr, X_ret, X_retN, X_ite, X_pass, X_brk, X_cont, thnO_nx, thnO_rt, thnO_bk, thnO_ct, Xs_nil, Xs_cons, endO_nx, endO_rt, bi_lenT, bi_lenL, bi_tupL, bi_tupT, bi_lstT, bi_lstL, bi_int, bi_max, bi_min, bi_allB, bi_anyB, sl_tT, is_int, is_str, is_tup, is_bl, is_lst, look, put, setAll, wipeE, seqOf, boolOf, fget, fput, List.map_cons, List.map_nil, List.length_cons, List.length_nil, List.getElem?_cons_zero, List.getElem?_cons_succ, List.set_cons_zero, List.set_cons_succ, Option.getD_some, Option.bind_some, Option.map_some, List.cons_append, List.nil_append, List.replicate_zero, List.replicate_succ, ↓reduceIte, decide_true, decide_false, Nat.reduceEqDiff, Nat.reduceAdd, Nat.reduceSub, Nat.reduceLT, reduceCtorEq, Bool.not_true, Bool.not_false, Bool.or_false, Bool.or_true, Bool.false_or, Bool.true_or, o_add, o_sub, o_lt, o_le, o_gt, o_ge, o_eq, o_ne, o_isn, o_notn, back_same, nc0, nc1, nc2, nc3, nc4, nc5, nc6, nc7, nc8, nc9, nc10, nc11, nc12, nc20, beq_self_eq_true, Int.reduceEq, Int.reduceBEq, Int.reduceLT, Int.reduceLE, Int.reduceAdd, Int.reduceSub, Int.reduceNeg, b10, Tr.d, ix3_0, ix3_1, ix3_2, B.c 6 _ rfl, B.c 7 _ rfl, o_eqS, q1, q2, q3, q4, w1, w2, Tr.val]
  | .num i, 0, .num h1 h2, _, n => by omega
  | .ltr c, 0, .ltr h1 h2, _, n => by omega
  | .op c a b, 0, .op h1 h2 h3 h4, _, n => by omega
end
end GB

/-! led_on, state, run, results -/
namespace GB
open VI
def rho (vs : List Int) (s : Int) (c : Nat) : Int := if c = 115 then s else if c = 97 then vs.getD 0 0 else if c = 98 then vs.getD 1 0 else vs.getD 2 0
def stepG (τ : Tr) (size : Nat) (vs : List Int) (s : Int) : Int := τ.val (rho vs s) % size
def ledG (τ : Tr) (size : Nat) (vs : List Int) : Nat → Int → Int
  | 0, s => s
  | c + 1, s => ledG τ size vs c (stepG τ size vs s)
def ks0 (vs : List Int) : List D := ([97, 98, 99].take vs.length).map fun c => D.str [c]
def Dc (vs : List Int) (o : Ob) : Prop := o = .dct (ks0 vs) (vs.map D.int) ∨ ∃ x, o = .dct (ks0 vs ++ [.str [115]]) (vs.map D.int ++ [.int x])
theorem len4 {vs : List Int} (h : vs.length ≤ 3) : vs = [] ∨ (∃ a, vs = [a]) ∨ (∃ a b, vs = [a, b]) ∨ ∃ a b c, vs = [a, b, c] := by
  match vs, h with
  | [], _ => exact .inl rfl
  | [a], _ => exact .inr (.inl ⟨a, rfl⟩)
  | [a, b], _ => exact .inr (.inr (.inl ⟨a, b, rfl⟩))
  | [a, b, c], _ => exact .inr (.inr (.inr ⟨a, b, c, rfl⟩))
  | _ :: _ :: _ :: _ :: _, h => simp at h
theorem zip_vs {vs : List Int} (h : vs.length ≤ 3) : zipPut [97, 98, 99] (vs.map D.int) [] [] = (ks0 vs, vs.map D.int) := by
  rcases len4 h with rfl | ⟨a, rfl⟩ | ⟨a, b, rfl⟩ | ⟨a, b, c, rfl⟩ <;> rfl
theorem put_s {vs : List Int} (h : vs.length ≤ 3) (x : Int) {ks ws : List D} (q : Dc vs (.dct ks ws)) : putAt (.str [115]) (.int x) ks ws = (ks0 vs ++ [.str [115]], vs.map D.int ++ [.int x]) := by
  rcases q with q | ⟨y, q⟩ <;> cases q <;> rcases len4 h with rfl | ⟨a, rfl⟩ | ⟨a, b, rfl⟩ | ⟨a, b, c, rfl⟩ <;> rfl
theorem keys_vs {vs : List Int} (h : vs.length ≤ 3) : (ks0 vs ++ [D.str [115]]).all isKey = true ∧ (ks0 vs).all isKey = true := by
  rcases len4 h with rfl | ⟨a, rfl⟩ | ⟨a, b, rfl⟩ | ⟨a, b, c, rfl⟩ <;> exact ⟨rfl, rfl⟩
theorem key_vs {vs : List Int} (h : vs.length ≤ 3) (x : Int) : ∀ c ∈ letters vs.length, keyAt (.str [c]) (ks0 vs ++ [.str [115]]) (vs.map D.int ++ [.int x]) = some (.int (rho vs x c)) := by
  intro c hc
  rcases len4 h with rfl | ⟨a, rfl⟩ | ⟨a, b, rfl⟩ | ⟨a, b, c', rfl⟩ <;> simp [letters] at hc
  · subst hc; rfl
  · rcases hc with rfl | rfl <;> rfl
  · rcases hc with rfl | rfl | rfl <;> rfl
  · rcases hc with rfl | rfl | rfl | rfl <;> rfl
theorem rho_lt {vs : List Int} {x : Int} {c : Nat} (hv : ∀ v ∈ vs, 0 ≤ v ∧ v < 10) (hx : 0 ≤ x ∧ x < 10) : (rho vs x c).natAbs < 10 := by
  have g : ∀ k, (vs.getD k 0).natAbs < 10 := fun k => by
    by_cases hk : k < vs.length
    · have := hv vs[k] (List.getElem_mem hk)
      simp [List.getD, hk]; omega
    · simp [List.getD, List.getElem?_eq_none (show vs.length ≤ k by omega)]
  unfold rho
  split
  · omega
  · split
    · exact g 0
    · split
      · exact g 1
      · exact g 2
section
variable {P : Pg} {n l i : Nat} {h : Hh} {ts : List Tk} {t : Tk} {τ : Tr} {vs : List Int}
/-- what is known of a task of a graph -/
structure At (ts : List Tk) (i : Nat) (t : Tk) (τ : Tr) : Prop where
  nd : (names ts).Nodup
  e : ts[i]? = some t
  lo : 1 ≤ t.size
  hi : t.size ≤ 9
  few : t.feeds.length ≤ 3
  fed : ∀ f ∈ t.feeds, f ∈ names ts
  tr : tree t = τ.d
  wt : Wt (letters t.feeds.length) τ 40
theorem step_lt {s : Int} (lo : 1 ≤ t.size) (hi : t.size ≤ 9) : 0 ≤ stepG τ t.size vs s ∧ stepG τ t.size vs s < 10 := by
  unfold stepG
  have h1 := Int.emod_nonneg (τ.val (rho vs s)) (b := (t.size : Int)) (by omega)
  have h2 := Int.emod_lt_of_pos (τ.val (rho vs s)) (b := (t.size : Int)) (by omega)
  omega
theorem low_dc {ks ws : List D} (h3 : vs.length ≤ 3) (q : Dc vs (.dct ks ws)) (k : Nat) : Ob.low k (.dct ks ws) = true := by
  rcases q with q | ⟨y, q⟩ <;> cases q <;> rcases len4 h3 with rfl | ⟨a, rfl⟩ | ⟨a, b, rfl⟩ | ⟨a, b, c, rfl⟩ <;> rfl
theorem len_dc {ks ws : List D} (h3 : vs.length ≤ 3) (q : Dc vs (.dct ks ws)) : ks.length ≤ 4 ∧ ks.all isKey = true := by
  rcases q with q | ⟨y, q⟩ <;> cases q <;> rcases len4 h3 with rfl | ⟨a, rfl⟩ | ⟨a, b, rfl⟩ | ⟨a, b, c, rfl⟩ <;> exact ⟨by simp [ks0], rfl⟩
theorem gob_app {x : Ob} (hl : h[l]? = some (gob ts)) : (h ++ [x])[l]? = some (gob ts) := by
  rw [List.getElem?_append_left (List.getElem?_eq_some_iff.mp hl).1]; exact hl
/-- led_on's loop -/
theorem l_led (B : Bs P) (hl : h[l]? = some (gob ts)) (a : At ts i t τ) (hn : vs.length = t.feeds.length) (hv : ∀ v ∈ vs, 0 ≤ v ∧ v < 10) {x1 x2 x4 x6 : Option D} : ∀ {xs : List D} {s : Int} {ks ws : List D} {x5 : Option D}, 0 ≤ s ∧ s < 10 → Dc vs (.dct ks ws) →
    ∃ x5' ks' ws', forLoop (.nm 5) (exs P (run P (n + 41)) (.cons (.asgI (.var 7) (.glo 0) (.var 3)) (.cons (.asg (.nm 3) (.bin .mod (.call 10 (.cons (.var 6) (.cons (.var 7) .nil))) (.meth 20 (.var 0) (.cons (.var 1) .nil)))) .nil))) xs [some (.ref l), some (.str t.nm), x2, some (.int s), x4, x5, some τ.d, some (.ref h.length)] (h ++ [.dct ks ws])
      = some (.nx [some (.ref l), some (.str t.nm), x2, some (.int (ledG τ t.size vs xs.length s)), x4, x5', some τ.d, some (.ref h.length)] (h ++ [.dct ks' ws']))
  | [], s, ks, ws, x5, _, _ => ⟨x5, ks, ws, rfl⟩
  | x :: xs, s, ks, ws, x5, hs, q => by
    have h3 : vs.length ≤ 3 := by rw [hn]; exact a.few
    obtain ⟨k1, k2⟩ := len_dc h3 q
    have hp := put_s h3 s q
    have w := r_worth (P := P) (d := h.length) (ρ := rho vs s) (ls := letters vs.length) (h := h ++ [.dct (ks0 vs ++ [.str [115]]) (vs.map D.int ++ [.int s])]) B (app_at _ _) (keys_vs h3).1 (fun c hc => ⟨key_vs h3 s c hc, rho_lt hv hs⟩) (by rw [hn]; exact a.wt) (Nat.le_refl 40) (n + 1)
    have sd := set_dct (h := h ++ [.dct ks ws]) (l := h.length) (k := .str [115]) (v := .int s) (app_at _ _) rfl k2 (lim_big (by omega))
    rw [hp, app_set] at sd
    have md : op2 (h ++ [.dct (ks0 vs ++ [.str [115]]) (vs.map D.int ++ [.int s])]) .mod (.int (τ.val (rho vs s))) (.int (t.size : Int)) = some (.int (stepG τ t.size vs s)) := o_mod (by have := a.lo; omega)
    obtain ⟨x5', ks', ws', ih⟩ := l_led B hl a hn hv (xs := xs) (x1 := x1) (x2 := x2) (x4 := x4) (x6 := x6) (s := stepG τ t.size vs s) (ks := ks0 vs ++ [.str [115]]) (ws := vs.map D.int ++ [.int s]) (x5 := some x) (step_lt a.lo a.hi) (.inr ⟨s, rfl⟩)
    refine ⟨x5', ks', ws', ?_⟩
    rw [for_nx (δ1 := [some (.ref l), some (.str t.nm), x2, some (.int s), x4, some x, some τ.d, some (.ref h.length)]) (δ2 := [some (.ref l), some (.str t.nm), x2, some (.int (stepG τ t.size vs s)), x4, some x, some τ.d, some (.ref h.length)]) (h2 := h ++ [.dct (ks0 vs ++ [.str [115]]) (vs.map D.int ++ [.int s])]) rfl, ih]
    · rfl
    · simp only [E_var, E_cst, E_glo, E_bin, E_cmp, chF_t, chF_f, E_chain, E_neg, E_and, E_or, E_not, E_ite, E_tup, E_lst, E_mlst, E_mdct, E_call, E_meth, E_prop, E_has, E_fld, E_bi, E_isi, E_idx, E_sl, E_slT, E_slH, E_stat, E_statK, E_dz, E_rev, E_callG, E_methK, E_make, E_makeK, E_dsp, E_inR, E_join, E_upd, E_app, Es_nil, Es_cons, I_seq, I_rng1, I_rng2, I_down, I_enum, I_zip, chO_t, chO_f, X_asg, X_asgF, X_asgI, X_augF, X_par, X_asgT, X_aug, X_expr, X_ret, X_retN, X_ite, X_pass, X_brk, X_cont, thnO_nx, thnO_rt, thnO_bk, thnO_ct, Xs_nil, Xs_cons, endO_nx, endO_rt, bi_lenT, bi_lenL, bi_tupL, bi_tupT, bi_lstT, bi_lstL, bi_int, bi_max, bi_min, bi_allB, bi_anyB, sl_tT, is_int, is_str, is_tup, is_bl, is_lst, look, put, setAll, wipeE, seqOf, boolOf, fget, fput, List.map_cons, List.map_nil, List.length_cons, List.length_nil, List.getElem?_cons_zero, List.getElem?_cons_succ, List.set_cons_zero, List.set_cons_succ, Option.getD_some, Option.bind_some, Option.map_some, List.cons_append, List.nil_append, List.replicate_zero, List.replicate_succ, ↓reduceIte, decide_true, decide_false, Nat.reduceEqDiff, Nat.reduceAdd, Nat.reduceSub, Nat.reduceLT, reduceCtorEq, Bool.not_true, Bool.not_false, Bool.or_false, Bool.or_true, Bool.false_or, Bool.true_or, o_add, o_sub, o_lt, o_le, o_gt, o_ge, o_eq, o_ne, o_isn, o_notn, back_same, nc0, nc1, nc2, nc3, nc4, nc5, nc6, nc7, nc8, nc9, nc10, nc11, nc12, nc20, beq_self_eq_true, Int.reduceEq, Int.reduceBEq, Int.reduceLT, Int.reduceLE, Int.reduceAdd, Int.reduceSub, Int.reduceNeg, B.c 0 _ rfl, sd, w, ins_g (gob_app hl), B.d 20 _ rfl, r_size B (gob_app hl) a.nd a.e, md]
theorem rangeL_len {k : Nat} : (rangeL 0 (k : Int)).length = k := by simp [rangeL]
theorem within_nat {k : Nat} (hk : k ≤ 100000) : within (k : Int) = true := by
  exact Nat.blt_eq.mpr (by omega)
theorem f_led (B : Bs P) (hl : h[l]? = some (gob ts)) (a : At ts i t τ) (hn : vs.length = t.feeds.length) (hv : ∀ v ∈ vs, 0 ≤ v ∧ v < 10) {s : Int} (hs : 0 ≤ s ∧ s < 10) {k : Nat} (hk : k ≤ 1000) : ∃ x5' ks' ws',
    ex P (run P (n + 41)) (.for (.nm 5) (.range1 (.var 4)) (.cons (.asgI (.var 7) (.glo 0) (.var 3)) (.cons (.asg (.nm 3) (.bin .mod (.call 10 (.cons (.var 6) (.cons (.var 7) .nil))) (.meth 20 (.var 0) (.cons (.var 1) .nil)))) .nil))) [some (.ref l), some (.str t.nm), some (.tup (vs.map D.int)), some (.int s), some (.int k), none, some τ.d, some (.ref h.length)] (h ++ [.dct (ks0 vs) (vs.map D.int)]) = some (.nx [some (.ref l), some (.str t.nm), some (.tup (vs.map D.int)), some (.int (ledG τ t.size vs k s)), some (.int k), x5', some τ.d, some (.ref h.length)] (h ++ [.dct ks' ws'])) := by
  obtain ⟨x5', ks', ws', lp⟩ := l_led (n := n) B hl a hn hv (xs := rangeL 0 (k : Int)) (x1 := none) (x2 := some (.tup (vs.map D.int))) (x4 := some (.int k)) (x6 := none) (s := s) (ks := ks0 vs) (ws := vs.map D.int) (x5 := none) hs (.inl rfl)
  rw [rangeL_len] at lp
  refine ⟨x5', ks', ws', x_for (xs := rangeL 0 (k : Int)) (h1 := h ++ [.dct (ks0 vs) (vs.map D.int)]) ?_ lp⟩
  exact i_rng1 (e_var rfl) (within_nat (Nat.le_trans hk (by decide)))
/-- led_on -/
theorem r_led (B : Bs P) (c : Cl h) (hl : h[l]? = some (gob ts)) (a : At ts i t τ) (hn : vs.length = t.feeds.length) (hv : ∀ v ∈ vs, 0 ≤ v ∧ v < 10) {s : Int} (hs : 0 ≤ s ∧ s < 10) {k : Nat} (hk : k ≤ 1000) :
    run P (n + 42) 24 [.ref l, .str t.nm, .tup (vs.map D.int), .int s, .int k] h = some (.int (ledG τ t.size vs k s), h) := by
  have h3 : vs.length ≤ 3 := by rw [hn]; exact a.few
  obtain ⟨x5', ks', ws', fl⟩ := f_led (n := n) B hl a hn hv hs hk
  have tr : idxF h (.tup (ts.map tree)) (.int i) = some τ.d := by rw [ix_tr a.e, a.tr]
  have bc := back_cut (t := [.dct ks' ws']) c (fr_of_flat (d := .int (ledG τ t.size vs k s)) rfl)
  have z := zip_vs h3
  have pa : ev P (run P (n + 41)) (.idx (.fld 1 (.var 0) 7) (.meth 19 (.var 0) (.cons (.var 1) .nil))) [some (.ref l), some (.str t.nm), some (.tup (vs.map D.int)), some (.int s), some (.int k), none, none, none] h = some (τ.d, h) := by
    simp only [E_var, E_cst, E_glo, E_bin, E_cmp, chF_t, chF_f, E_chain, E_neg, E_and, E_or, E_not, E_ite, E_tup, E_lst, E_mlst, E_mdct, E_call, E_meth, E_prop, E_has, E_fld, E_bi, E_isi, E_idx, E_sl, E_slT, E_slH, E_stat, E_statK, E_dz, E_rev, E_callG, E_methK, E_make, E_makeK, E_dsp, E_inR, E_join, E_upd, E_app, Es_nil, Es_cons, I_seq, I_rng1, I_rng2, I_down, I_enum, I_zip, chO_t, chO_f, X_asg, X_asgF, X_asgI, X_augF, X_par, X_asgT, X_aug, X_expr, X_ret, X_retN, X_ite, X_pass, X_brk, X_cont, thnO_nx, thnO_rt, thnO_bk, thnO_ct, Xs_nil, Xs_cons, endO_nx, endO_rt, bi_lenT, bi_lenL, bi_tupL, bi_tupT, bi_lstT, bi_lstL, bi_int, bi_max, bi_min, bi_allB, bi_anyB, sl_tT, is_int, is_str, is_tup, is_bl, is_lst, look, put, setAll, wipeE, seqOf, boolOf, fget, fput, List.map_cons, List.map_nil, List.length_cons, List.length_nil, List.getElem?_cons_zero, List.getElem?_cons_succ, List.set_cons_zero, List.set_cons_succ, Option.getD_some, Option.bind_some, Option.map_some, List.cons_append, List.nil_append, List.replicate_zero, List.replicate_succ, ↓reduceIte, decide_true, decide_false, Nat.reduceEqDiff, Nat.reduceAdd, Nat.reduceSub, Nat.reduceLT, reduceCtorEq, Bool.not_true, Bool.not_false, Bool.or_false, Bool.or_true, Bool.false_or, Bool.true_or, o_add, o_sub, o_lt, o_le, o_gt, o_ge, o_eq, o_ne, o_isn, o_notn, back_same, nc0, nc1, nc2, nc3, nc4, nc5, nc6, nc7, nc8, nc9, nc10, nc11, nc12, nc20, beq_self_eq_true, Int.reduceEq, Int.reduceBEq, Int.reduceLT, Int.reduceLE, Int.reduceAdd, Int.reduceSub, Int.reduceNeg, ins_g hl, B.d 19 _ rfl, r_place B hl a.nd a.e, tr]
  have pb : ev P (run P (n + 41)) (.dz (.glo 1) (.var 2)) [some (.ref l), some (.str t.nm), some (.tup (vs.map D.int)), some (.int s), some (.int k), none, none, none] h = some (.ref h.length, h ++ [.dct (ks0 vs) (vs.map D.int)]) := by
    simp only [E_var, E_cst, E_glo, E_bin, E_cmp, chF_t, chF_f, E_chain, E_neg, E_and, E_or, E_not, E_ite, E_tup, E_lst, E_mlst, E_mdct, E_call, E_meth, E_prop, E_has, E_fld, E_bi, E_isi, E_idx, E_sl, E_slT, E_slH, E_stat, E_statK, E_dz, E_rev, E_callG, E_methK, E_make, E_makeK, E_dsp, E_inR, E_join, E_upd, E_app, Es_nil, Es_cons, I_seq, I_rng1, I_rng2, I_down, I_enum, I_zip, chO_t, chO_f, X_asg, X_asgF, X_asgI, X_augF, X_par, X_asgT, X_aug, X_expr, X_ret, X_retN, X_ite, X_pass, X_brk, X_cont, thnO_nx, thnO_rt, thnO_bk, thnO_ct, Xs_nil, Xs_cons, endO_nx, endO_rt, bi_lenT, bi_lenL, bi_tupL, bi_tupT, bi_lstT, bi_lstL, bi_int, bi_max, bi_min, bi_allB, bi_anyB, sl_tT, is_int, is_str, is_tup, is_bl, is_lst, look, put, setAll, wipeE, seqOf, boolOf, fget, fput, List.map_cons, List.map_nil, List.length_cons, List.length_nil, List.getElem?_cons_zero, List.getElem?_cons_succ, List.set_cons_zero, List.set_cons_succ, Option.getD_some, Option.bind_some, Option.map_some, List.cons_append, List.nil_append, List.replicate_zero, List.replicate_succ, ↓reduceIte, decide_true, decide_false, Nat.reduceEqDiff, Nat.reduceAdd, Nat.reduceSub, Nat.reduceLT, reduceCtorEq, Bool.not_true, Bool.not_false, Bool.or_false, Bool.or_true, Bool.false_or, Bool.true_or, o_add, o_sub, o_lt, o_le, o_gt, o_ge, o_eq, o_ne, o_isn, o_notn, back_same, nc0, nc1, nc2, nc3, nc4, nc5, nc6, nc7, nc8, nc9, nc10, nc11, nc12, nc20, beq_self_eq_true, Int.reduceEq, Int.reduceBEq, Int.reduceLT, Int.reduceLE, Int.reduceAdd, Int.reduceSub, Int.reduceNeg, B.c 1 _ rfl, z]
  have st0 : exs P (run P (n + 41)) b24 [some (.ref l), some (.str t.nm), some (.tup (vs.map D.int)), some (.int s), some (.int k), none, none, none] h = some (.rt (.int (ledG τ t.size vs k s)) (h ++ [.dct ks' ws'])) := by
    rw [b24, Xs_cons, X_par, pa, Option.bind_some, pb, Option.map_some, Option.bind_some, thnO_nx, Xs_cons]
    simp only [List.set_cons_zero, List.set_cons_succ]
    rw [fl]
    rfl
  have rg := run_go (P := P) (n := n + 41) (f := 24) (ds := [.ref l, .str t.nm, .tup (vs.map D.int), .int s, .int k]) (h := h) (B.d 24 _ rfl) rfl
  refine rg.trans ?_
  show (exs P (run P (n + 41)) b24 [some (.ref l), some (.str t.nm), some (.tup (vs.map D.int)), some (.int s), some (.int k), none, none, none] h).bind (endO .clo h.length) = _
  rw [st0]
  exact bc
/-- the values fit: they are few and below ten -/
theorem ok_vals {szs : List Nat} (h : okVals szs vs = true) (hz : ∀ z ∈ szs, z ≤ 9) : vs.length = szs.length ∧ ∀ v ∈ vs, 0 ≤ v ∧ v < 10 := by
  unfold okVals at h
  rw [Bool.and_eq_true, decide_eq_true_eq] at h
  refine ⟨h.1, fun v hv => ?_⟩
  obtain ⟨k, hk, e⟩ := List.mem_iff_getElem.mp hv
  have h2 := List.all_eq_true.mp h.2 (v, szs[k]'(by omega)) (by
    refine List.mem_iff_getElem.mpr ⟨k, by simp; omega, ?_⟩
    simp [e])
  have hz := hz (szs[k]'(by omega)) (List.getElem_mem _)
  simp only [decide_eq_true_eq] at h2
  omega
theorem sz_le (ok : ∀ u ∈ ts, u.size ≤ 9) (f : List Nat) : szOf ts f ≤ 9 := by
  unfold szOf
  split
  · rename_i u e
    exact ok u (List.mem_of_find?_eq_some e)
  · omega
/-- state -/
theorem r_state (B : Bs P) (c : Cl h) (hl : h[l]? = some (gob ts)) (a : At ts i t τ) (ok : ∀ u ∈ ts, u.size ≤ 9) (hv : okVals (t.feeds.map (szOf ts)) vs = true) {k : Nat} (hk : k ≤ t.rounds) (hr : t.rounds ≤ 60) :
    run P (n + 43) 26 [.ref l, .str t.nm, .tup (vs.map D.int), .int k] h = some (.int (ledG τ t.size vs k 0), h) := by
  obtain ⟨v1, v2⟩ := ok_vals hv (fun z hz => by
    obtain ⟨f, _, rfl⟩ := List.mem_map.mp hz
    exact sz_le ok f)
  rw [List.length_map] at v1
  rw [run_go (B.d 26 _ rfl) rfl]
  have q1 : (0 : Int) ≤ k := by omega
  have q2 : (k : Int) ≤ t.rounds := by omega
  simp only [E_var, E_cst, E_glo, E_bin, E_cmp, chF_t, chF_f, E_chain, E_neg, E_and, E_or, E_not, E_ite, E_tup, E_lst, E_mlst, E_mdct, E_call, E_meth, E_prop, E_has, E_fld, E_bi, E_isi, E_idx, E_sl, E_slT, E_slH, E_stat, E_statK, E_dz, E_rev, E_callG, E_methK, E_make, E_makeK, E_dsp, E_inR, E_join, E_upd, E_app, Es_nil, Es_cons, I_seq, I_rng1, I_rng2, I_down, I_enum, I_zip, chO_t, chO_f, X_asg, X_asgF, X_asgI, X_augF, X_par, X_asgT, X_aug, X_expr, X_ret, X_retN, X_ite, X_pass, X_brk, X_cont, thnO_nx, thnO_rt, thnO_bk, thnO_ct, Xs_nil, Xs_cons, endO_nx, endO_rt, bi_lenT, bi_lenL, bi_tupL, bi_tupT, bi_lstT, bi_lstL, bi_int, bi_max, bi_min, bi_allB, bi_anyB, sl_tT, is_int, is_str, is_tup, is_bl, is_lst, look, put, setAll, wipeE, seqOf, boolOf, fget, fput, List.map_cons, List.map_nil, List.length_cons, List.length_nil, List.getElem?_cons_zero, List.getElem?_cons_succ, List.set_cons_zero, List.set_cons_succ, Option.getD_some, Option.bind_some, Option.map_some, List.cons_append, List.nil_append, List.replicate_zero, List.replicate_succ, ↓reduceIte, decide_true, decide_false, Nat.reduceEqDiff, Nat.reduceAdd, Nat.reduceSub, Nat.reduceLT, reduceCtorEq, Bool.not_true, Bool.not_false, Bool.or_false, Bool.or_true, Bool.false_or, Bool.true_or, o_add, o_sub, o_lt, o_le, o_gt, o_ge, o_eq, o_ne, o_isn, o_notn, back_same, nc0, nc1, nc2, nc3, nc4, nc5, nc6, nc7, nc8, nc9, nc10, nc11, nc12, nc20, beq_self_eq_true, Int.reduceEq, Int.reduceBEq, Int.reduceLT, Int.reduceLE, Int.reduceAdd, Int.reduceSub, Int.reduceNeg, b26, ins_g hl, B.d 23 _ rfl, B.d 22 _ rfl, B.d 24 _ rfl, r_hasv B hl a.nd a.e a.few a.fed, hv, r_rounds B hl a.nd a.e, r_between B, q1, q2, and_self, r_led B c hl a v1 v2 (show (0 : Int) ≤ 0 ∧ (0 : Int) < 10 by decide) (show k ≤ 1000 by omega)]
/-- run -/
theorem r_run (B : Bs P) (c : Cl h) (hl : h[l]? = some (gob ts)) (a : At ts i t τ) (ok : ∀ u ∈ ts, u.size ≤ 9) (hv : okVals (t.feeds.map (szOf ts)) vs = true) (hr : t.rounds ≤ 60) :
    run P (n + 44) 27 [.ref l, .str t.nm, .tup (vs.map D.int)] h = some (.int (ledG τ t.size vs t.rounds 0), h) := by
  rw [run_go (B.d 27 _ rfl) rfl]
  simp only [E_var, E_cst, E_glo, E_bin, E_cmp, chF_t, chF_f, E_chain, E_neg, E_and, E_or, E_not, E_ite, E_tup, E_lst, E_mlst, E_mdct, E_call, E_meth, E_prop, E_has, E_fld, E_bi, E_isi, E_idx, E_sl, E_slT, E_slH, E_stat, E_statK, E_dz, E_rev, E_callG, E_methK, E_make, E_makeK, E_dsp, E_inR, E_join, E_upd, E_app, Es_nil, Es_cons, I_seq, I_rng1, I_rng2, I_down, I_enum, I_zip, chO_t, chO_f, X_asg, X_asgF, X_asgI, X_augF, X_par, X_asgT, X_aug, X_expr, X_ret, X_retN, X_ite, X_pass, X_brk, X_cont, thnO_nx, thnO_rt, thnO_bk, thnO_ct, Xs_nil, Xs_cons, endO_nx, endO_rt, bi_lenT, bi_lenL, bi_tupL, bi_tupT, bi_lstT, bi_lstL, bi_int, bi_max, bi_min, bi_allB, bi_anyB, sl_tT, is_int, is_str, is_tup, is_bl, is_lst, look, put, setAll, wipeE, seqOf, boolOf, fget, fput, List.map_cons, List.map_nil, List.length_cons, List.length_nil, List.getElem?_cons_zero, List.getElem?_cons_succ, List.set_cons_zero, List.set_cons_succ, Option.getD_some, Option.bind_some, Option.map_some, List.cons_append, List.nil_append, List.replicate_zero, List.replicate_succ, ↓reduceIte, decide_true, decide_false, Nat.reduceEqDiff, Nat.reduceAdd, Nat.reduceSub, Nat.reduceLT, reduceCtorEq, Bool.not_true, Bool.not_false, Bool.or_false, Bool.or_true, Bool.false_or, Bool.true_or, o_add, o_sub, o_lt, o_le, o_gt, o_ge, o_eq, o_ne, o_isn, o_notn, back_same, nc0, nc1, nc2, nc3, nc4, nc5, nc6, nc7, nc8, nc9, nc10, nc11, nc12, nc20, beq_self_eq_true, Int.reduceEq, Int.reduceBEq, Int.reduceLT, Int.reduceLE, Int.reduceAdd, Int.reduceSub, Int.reduceNeg, b27, ins_g hl, B.d 22 _ rfl, B.d 26 _ rfl, r_rounds B hl a.nd a.e, r_state B c hl a ok hv (Nat.le_refl _) hr]
end
end GB

/-! results, needs, uses -/
namespace GB
open VI
def lookN (acc : List (List Nat × Int)) (f : List Nat) : Int := match acc.find? (fun p => p.1 == f) with
  | some p => p.2
  | none => 0
def resG : List Tk → List Tr → List (List Nat × Int) → List (List Nat × Int)
  | t :: ts, τ :: τs, acc => resG ts τs (acc ++ [(t.nm, ledG τ t.size (t.feeds.map (lookN acc)) t.rounds 0)])
  | _, _, acc => acc
structure GG (ts : List Tk) (τs : List Tr) : Prop where
  g : GrOk [] ts
  n1 : 1 ≤ ts.length
  n2 : ts.length ≤ 20
  len : τs.length = ts.length
  tr : ∀ (i : Nat) (t : Tk) (τ : Tr), ts[i]? = some t → τs[i]? = some τ → tree t = τ.d ∧ Wt (letters t.feeds.length) τ 40
theorem GG.at {ts : List Tk} {τs : List Tr} (G : GG ts τs) {i : Nat} {t : Tk} {τ : Tr} (h1 : ts[i]? = some t) (h2 : τs[i]? = some τ) : At ts i t τ := by
  have k := G.g.at h1
  exact ⟨G.g.nd.1, h1, by have := k.lo; omega, by have := k.hi; omega, k.few, G.g.fed h1, (G.tr i t τ h1 h2).1, (G.tr i t τ h1 h2).2⟩
theorem GG.sz {ts : List Tk} {τs : List Tr} (G : GG ts τs) : ∀ u ∈ ts, u.size ≤ 9 := fun u hu => by
  obtain ⟨i, hi⟩ := List.getElem?_of_mem hu
  have := (G.g.at hi).hi
  omega
theorem GG.tr_at {ts : List Tk} {τs : List Tr} (G : GG ts τs) {i : Nat} {t : Tk} (h1 : ts[i]? = some t) : ∃ τ, τs[i]? = some τ := by
  have := (List.getElem?_eq_some_iff.mp h1).1
  exact ⟨τs[i]'(by rw [G.len]; exact this), by simp [G.len, this]⟩
theorem key_acc {f : List Nat} : ∀ {acc : List (List Nat × Int)}, f ∈ acc.map (·.1) → keyAt (.str f) (acc.map fun p => D.str p.1) (acc.map fun p => D.int p.2) = some (.int (lookN acc f))
  | [], m => by simp at m
  | (a, v) :: acc, m => by
    rw [List.map_cons, List.map_cons]
    by_cases e : a = f
    · rw [keyAt_hit (eqv_strT e)]; simp [lookN, e]
    · rw [keyAt_miss (eqv_strF e), key_acc (by simpa [Ne.symm e] using m)]
      have e2 : (a == f) = false := by simpa using e
      simp [lookN, e2]
theorem keys_acc (acc : List (List Nat × Int)) : (acc.map fun p => D.str p.1).all isKey = true := by
  rw [List.all_map]
  exact List.all_eq_true.mpr fun x _ => rfl
def aD (acc : List (List Nat × Int)) : Ob := .dct (acc.map fun p => D.str p.1) (acc.map fun p => D.int p.2)
theorem low_aD {k : Nat} {acc : List (List Nat × Int)} : Ob.low k (aD acc) = true := by
  show (D.lows k (acc.map fun p => D.str p.1) && D.lows k (acc.map fun p => D.int p.2)) = true
  rw [lows_fr (fun p => fr_of_flat rfl), lows_fr (fun p => fr_of_flat rfl)]; rfl
section
variable {P : Pg} {n l i d : Nat} {h : Hh} {ts : List Tk} {τs : List Tr} {t : Tk} {τ : Tr} {acc : List (List Nat × Int)}
theorem ix_aD {f : List Nat} (hd : h[d]? = some (aD acc)) (m : f ∈ acc.map (·.1)) : idxF h (.ref d) (.str f) = some (.int (lookN acc f)) := by
  show idxO h (.ref d) (.str f) = _
  simp only [idxO, lstOf, dctOf, hd, aD]
  rw [keys_acc, key_acc m]; rfl
theorem set_aD {f : List Nat} {v : Int} (hd : h[d]? = some (aD acc)) (m : f ∉ acc.map (·.1)) (few : acc.length ≤ 100) : setF h (.ref d) (.str f) (.int v) = some (h.set d (aD (acc ++ [(f, v)]))) := by
  rw [set_dct hd rfl (keys_acc acc) (lim_big (by rw [List.length_map]; omega))]
  have := put_new (v := .int v) (ks := acc.map (·.1)) (vs := acc.map fun p => D.int p.2) m
  rw [List.map_map] at this
  have e : (acc.map fun p => D.str p.1) = acc.map (D.str ∘ fun x => x.1) := rfl
  rw [e, this]
  simp [aD]
  rfl
theorem look_mem {f : List Nat} (m : f ∈ acc.map (·.1)) : (f, lookN acc f) ∈ acc := by
  induction acc with
  | nil => simp at m
  | cons a acc ih =>
    obtain ⟨a, v⟩ := a
    by_cases e : a = f
    · subst e; simp [lookN]
    · have e2 : (a == f) = false := by simpa using e
      have : lookN ((a, v) :: acc) f = lookN acc f := by simp [lookN, e2]
      rw [this]
      exact List.mem_cons_of_mem _ (ih (by simpa [Ne.symm e] using m))
/-- what is known of the results so far -/
structure AccOk (ts : List Tk) (dn : List Tk) (acc : List (List Nat × Int)) : Prop where
  nm : acc.map (·.1) = names dn
  ok : ∀ p ∈ acc, 0 ≤ p.2 ∧ p.2 ≤ (szOf ts p.1 : Int) - 1
theorem led_lt {vs : List Int} {s : Int} (lo : 1 ≤ t.size) : ∀ {k : Nat}, 0 ≤ s ∧ s ≤ (t.size : Int) - 1 → 0 ≤ ledG τ t.size vs k s ∧ ledG τ t.size vs k s ≤ (t.size : Int) - 1
  | 0, h => h
  | k + 1, h => by
    unfold ledG
    refine led_lt lo (k := k) ?_
    unfold stepG
    have h1 := Int.emod_nonneg (τ.val (rho vs s)) (b := (t.size : Int)) (by omega)
    have h2 := Int.emod_lt_of_pos (τ.val (rho vs s)) (b := (t.size : Int)) (by omega)
    omega
theorem acc_vals {dn : List Tk} (A : AccOk ts dn acc) {fs : List (List Nat)} (hf : ∀ f ∈ fs, f ∈ names dn) : okVals (fs.map (szOf ts)) (fs.map (lookN acc)) = true := by
  unfold okVals
  rw [Bool.and_eq_true, decide_eq_true_eq]
  refine ⟨by simp, List.all_eq_true.mpr fun p hp => ?_⟩
  rw [List.zip_map'] at hp
  obtain ⟨f, h1, rfl⟩ := List.mem_map.mp hp
  have := A.ok _ (look_mem (acc := acc) (f := f) (by rw [A.nm]; exact hf f h1))
  simpa using this
theorem acc_next {dn r : List Tk} (G : GG ts τs) (e : ts = dn ++ t :: r) (A : AccOk ts dn acc) : AccOk ts (dn ++ [t]) (acc ++ [(t.nm, ledG τ t.size (t.feeds.map (lookN acc)) t.rounds 0)]) := by
  have hi : ts[dn.length]? = some t := by rw [e]; simp
  have k := G.g.at hi
  refine ⟨by simp [A.nm, names], fun p hp => ?_⟩
  rcases List.mem_append.mp hp with q | q
  · exact A.ok p q
  · have : p = _ := List.mem_singleton.mp q
    subst this
    rw [sz_at G.g.nd.1 hi]
    exact led_lt (by have := k.lo; omega) ⟨by decide, by have := k.lo; omega⟩
/-- results' loop -/
theorem l_res (B : Bs P) (c : Cl h) (G : GG ts τs) (hl : h[l]? = some (gob ts)) {x7 : Option D} : ∀ {r : List Tk} {σs : List Tr} {dn : List Tk} {δs : List Tr} {acc : List (List Nat × Int)} {x2 x3 x4 x5 x6 : Option D}, ts = dn ++ r → τs = δs ++ σs → δs.length = dn.length → AccOk ts dn acc →
    ∃ x2' x3' x4' x5' x6', forLoop (.tp [2, 3, 4, 5, 6]) (exs P (run P (n + 44)) (.cons (.asgI (.var 1) (.var 2) (.meth 27 (.var 0) (.cons (.var 2) (.cons (.bi .tuple (.cons (.lc (.nm 7) [7] (.seq (.var 4)) (.cst (.bl true)) (.idx (.var 1) (.var 7))) .nil)) .nil)))) .nil)) (r.map Tk.d) [some (.ref l), some (.ref h.length), x2, x3, x4, x5, x6, x7] (h ++ [aD acc])
      = some (.nx [some (.ref l), some (.ref h.length), x2', x3', x4', x5', x6', x7] (h ++ [aD (resG r σs acc)])) ∧ AccOk ts (dn ++ r) (resG r σs acc)
  | [], σs, dn, δs, acc, x2, x3, x4, x5, x6, _, _, _, A => ⟨x2, x3, x4, x5, x6, rfl, by simpa [resG] using A⟩
  | t :: r, [], dn, δs, acc, x2, x3, x4, x5, x6, e1, e2, e3, A => by
    have := G.len
    rw [e1, e2] at this
    simp at this; omega
  | t :: r, τ :: σs, dn, δs, acc, x2, x3, x4, x5, x6, e1, e2, e3, A => by
    have hi : ts[dn.length]? = some t := by rw [e1]; simp
    have ht : τs[dn.length]? = some τ := by rw [e2, ← e3]; simp
    have k := G.g.at hi
    have tk : ts.take dn.length = dn := by rw [e1]; simp
    rw [tk, List.nil_append] at k
    have al : acc.length = dn.length := by have := congrArg List.length A.nm; simpa [names] using this
    have dl : dn.length ≤ 20 := by have := G.n2; rw [e1] at this; simp at this; omega
    have nw : t.nm ∉ acc.map (·.1) := by rw [A.nm]; exact k.new
    obtain ⟨v, hv⟩ : ∃ v, v = ledG τ t.size (t.feeds.map (lookN acc)) t.rounds 0 := ⟨_, rfl⟩
    obtain ⟨x2', x3', x4', x5', x6', ih, A2⟩ := l_res B c G hl (x7 := x7) (r := r) (σs := σs) (dn := dn ++ [t]) (δs := δs ++ [τ]) (acc := acc ++ [(t.nm, v)]) (x2 := some (.str t.nm)) (x3 := some (.int t.size)) (x4 := some (.tup (t.feeds.map D.str))) (x5 := some (.int t.rounds)) (x6 := some (.str t.rule)) (by simp [e1]) (by simp [e2]) (by simp [e3]) (by rw [hv]; exact acc_next G e1 A)
    refine ⟨x2', x3', x4', x5', x6', ?_, by simpa [resG, ← hv] using A2⟩
    have hl2 := gob_app (x := aD acc) hl
    have c2 : Cl (h ++ [aD acc]) := clApp c low_aD
    let δ1 : Ev := [some (.ref l), some (.ref h.length), some (.str t.nm), some (.int t.size), some (.tup (t.feeds.map D.str)), some (.int t.rounds), some (.str t.rule), x7]
    have lc : ev P (run P (n + 44)) (.lc (.nm 7) [7] (.seq (.var 4)) (.cst (.bl true)) (.idx (.var 1) (.var 7))) [some (.ref l), some (.ref h.length), some (.str t.nm), some (.int t.size), some (.tup (t.feeds.map D.str)), some (.int t.rounds), some (.str t.rule), x7] (h ++ [aD acc]) = some (.lst ((t.feeds.map (lookN acc)).map D.int), h ++ [aD acc]) := by
      refine (e_lc (xs := t.feeds.map D.str) (h1 := h ++ [aD acc]) (by simp only [E_var, E_cst, E_glo, E_bin, E_cmp, chF_t, chF_f, E_chain, E_neg, E_and, E_or, E_not, E_ite, E_tup, E_lst, E_mlst, E_mdct, E_call, E_meth, E_prop, E_has, E_fld, E_bi, E_isi, E_idx, E_sl, E_slT, E_slH, E_stat, E_statK, E_dz, E_rev, E_callG, E_methK, E_make, E_makeK, E_dsp, E_inR, E_join, E_upd, E_app, Es_nil, Es_cons, I_seq, I_rng1, I_rng2, I_down, I_enum, I_zip, chO_t, chO_f, X_asg, X_asgF, X_asgI, X_augF, X_par, X_asgT, X_aug, X_expr, X_ret, X_retN, X_ite, X_pass, X_brk, X_cont, thnO_nx, thnO_rt, thnO_bk, thnO_ct, Xs_nil, Xs_cons, endO_nx, endO_rt, bi_lenT, bi_lenL, bi_tupL, bi_tupT, bi_lstT, bi_lstL, bi_int, bi_max, bi_min, bi_allB, bi_anyB, sl_tT, is_int, is_str, is_tup, is_bl, is_lst, look, put, setAll, wipeE, seqOf, boolOf, fget, fput, List.map_cons, List.map_nil, List.length_cons, List.length_nil, List.getElem?_cons_zero, List.getElem?_cons_succ, List.set_cons_zero, List.set_cons_succ, Option.getD_some, Option.bind_some, Option.map_some, List.cons_append, List.nil_append, List.replicate_zero, List.replicate_succ, ↓reduceIte, decide_true, decide_false, Nat.reduceEqDiff, Nat.reduceAdd, Nat.reduceSub, Nat.reduceLT, reduceCtorEq, Bool.not_true, Bool.not_false, Bool.or_false, Bool.or_true, Bool.false_or, Bool.true_or, o_add, o_sub, o_lt, o_le, o_gt, o_ge, o_eq, o_ne, o_isn, o_notn, back_same, nc0, nc1, nc2, nc3, nc4, nc5, nc6, nc7, nc8, nc9, nc10, nc11, nc12, nc20, beq_self_eq_true, Int.reduceEq, Int.reduceBEq, Int.reduceLT, Int.reduceLE, Int.reduceAdd, Int.reduceSub, Int.reduceNeg]) (lim_big (by rw [List.length_map]; have := k.few; omega)) (lc_fun D.str (fun f => D.int (lookN acc f)) fun f hf => ⟨[some (.ref l), some (.ref h.length), some (.str t.nm), some (.int t.size), some (.tup (t.feeds.map D.str)), some (.int t.rounds), some (.str t.rule), some (.str f)], rfl, E_cst, ?_⟩)).trans (by rw [List.map_map]; rfl)
      simp only [E_var, E_cst, E_glo, E_bin, E_cmp, chF_t, chF_f, E_chain, E_neg, E_and, E_or, E_not, E_ite, E_tup, E_lst, E_mlst, E_mdct, E_call, E_meth, E_prop, E_has, E_fld, E_bi, E_isi, E_idx, E_sl, E_slT, E_slH, E_stat, E_statK, E_dz, E_rev, E_callG, E_methK, E_make, E_makeK, E_dsp, E_inR, E_join, E_upd, E_app, Es_nil, Es_cons, I_seq, I_rng1, I_rng2, I_down, I_enum, I_zip, chO_t, chO_f, X_asg, X_asgF, X_asgI, X_augF, X_par, X_asgT, X_aug, X_expr, X_ret, X_retN, X_ite, X_pass, X_brk, X_cont, thnO_nx, thnO_rt, thnO_bk, thnO_ct, Xs_nil, Xs_cons, endO_nx, endO_rt, bi_lenT, bi_lenL, bi_tupL, bi_tupT, bi_lstT, bi_lstL, bi_int, bi_max, bi_min, bi_allB, bi_anyB, sl_tT, is_int, is_str, is_tup, is_bl, is_lst, look, put, setAll, wipeE, seqOf, boolOf, fget, fput, List.map_cons, List.map_nil, List.length_cons, List.length_nil, List.getElem?_cons_zero, List.getElem?_cons_succ, List.set_cons_zero, List.set_cons_succ, Option.getD_some, Option.bind_some, Option.map_some, List.cons_append, List.nil_append, List.replicate_zero, List.replicate_succ, ↓reduceIte, decide_true, decide_false, Nat.reduceEqDiff, Nat.reduceAdd, Nat.reduceSub, Nat.reduceLT, reduceCtorEq, Bool.not_true, Bool.not_false, Bool.or_false, Bool.or_true, Bool.false_or, Bool.true_or, o_add, o_sub, o_lt, o_le, o_gt, o_ge, o_eq, o_ne, o_isn, o_notn, back_same, nc0, nc1, nc2, nc3, nc4, nc5, nc6, nc7, nc8, nc9, nc10, nc11, nc12, nc20, beq_self_eq_true, Int.reduceEq, Int.reduceBEq, Int.reduceLT, Int.reduceLE, Int.reduceAdd, Int.reduceSub, Int.reduceNeg, ix_aD (app_at h (aD acc)) (show f ∈ acc.map (·.1) by rw [A.nm]; exact k.fed f hf)]
    have rr := r_run (n := n) (h := h ++ [aD acc]) B c2 hl2 (G.at hi ht) G.sz (acc_vals (fs := t.feeds) A k.fed) k.r2
    rw [← hv] at rr
    have st := set_aD (v := v) (app_at h (aD acc)) nw (by omega)
    rw [app_set] at st
    rw [List.map_cons, for_nx (δ1 := δ1) (δ2 := δ1) (h2 := h ++ [aD (acc ++ [(t.nm, v)])]) rfl, ih]
    · rw [resG, ← hv]
    · show exs P (run P (n + 44)) _ [some (.ref l), some (.ref h.length), some (.str t.nm), some (.int t.size), some (.tup (t.feeds.map D.str)), some (.int t.rounds), some (.str t.rule), x7] _ = some (.nx [some (.ref l), some (.ref h.length), some (.str t.nm), some (.int t.size), some (.tup (t.feeds.map D.str)), some (.int t.rounds), some (.str t.rule), x7] _)
      simp only [E_var, E_cst, E_glo, E_bin, E_cmp, chF_t, chF_f, E_chain, E_neg, E_and, E_or, E_not, E_ite, E_tup, E_lst, E_mlst, E_mdct, E_call, E_meth, E_prop, E_has, E_fld, E_bi, E_isi, E_idx, E_sl, E_slT, E_slH, E_stat, E_statK, E_dz, E_rev, E_callG, E_methK, E_make, E_makeK, E_dsp, E_inR, E_join, E_upd, E_app, Es_nil, Es_cons, I_seq, I_rng1, I_rng2, I_down, I_enum, I_zip, chO_t, chO_f, X_asg, X_asgF, X_asgI, X_augF, X_par, X_asgT, X_aug, X_expr, X_ret, X_retN, X_ite, X_pass, X_brk, X_cont, thnO_nx, thnO_rt, thnO_bk, thnO_ct, Xs_nil, Xs_cons, endO_nx, endO_rt, bi_lenT, bi_lenL, bi_tupL, bi_tupT, bi_lstT, bi_lstL, bi_int, bi_max, bi_min, bi_allB, bi_anyB, sl_tT, is_int, is_str, is_tup, is_bl, is_lst, look, put, setAll, wipeE, seqOf, boolOf, fget, fput, List.map_cons, List.map_nil, List.length_cons, List.length_nil, List.getElem?_cons_zero, List.getElem?_cons_succ, List.set_cons_zero, List.set_cons_succ, Option.getD_some, Option.bind_some, Option.map_some, List.cons_append, List.nil_append, List.replicate_zero, List.replicate_succ, ↓reduceIte, decide_true, decide_false, Nat.reduceEqDiff, Nat.reduceAdd, Nat.reduceSub, Nat.reduceLT, reduceCtorEq, Bool.not_true, Bool.not_false, Bool.or_false, Bool.or_true, Bool.false_or, Bool.true_or, o_add, o_sub, o_lt, o_le, o_gt, o_ge, o_eq, o_ne, o_isn, o_notn, back_same, nc0, nc1, nc2, nc3, nc4, nc5, nc6, nc7, nc8, nc9, nc10, nc11, nc12, nc20, beq_self_eq_true, Int.reduceEq, Int.reduceBEq, Int.reduceLT, Int.reduceLE, Int.reduceAdd, Int.reduceSub, Int.reduceNeg, lc, ins_g hl2, B.d 27 _ rfl, rr, st]
/-- results -/
theorem r_results (B : Bs P) (c : Cl h) (G : GG ts τs) (hl : h[l]? = some (gob ts)) : run P (n + 45) 28 [.ref l] h = some (.tup ((names ts).map fun f => .int (lookN (resG ts τs []) f)), h) ∧ AccOk ts ts (resG ts τs []) := by
  obtain ⟨x2, x3, x4, x5, x6, lp, A⟩ := l_res (n := n) (x7 := none) B c G hl (r := ts) (σs := τs) (dn := []) (δs := []) (acc := []) (x2 := none) (x3 := none) (x4 := none) (x5 := none) (x6 := none) rfl rfl rfl ⟨rfl, fun p hp => by simp at hp⟩
  refine ⟨?_, A⟩
  have few := G.n2
  have fl : ex P (run P (n + 44)) (.for (.tp [2, 3, 4, 5, 6]) (.seq (.fld 1 (.var 0) 5)) (.cons (.asgI (.var 1) (.var 2) (.meth 27 (.var 0) (.cons (.var 2) (.cons (.bi .tuple (.cons (.lc (.nm 7) [7] (.seq (.var 4)) (.cst (.bl true)) (.idx (.var 1) (.var 7))) .nil)) .nil)))) .nil)) [some (.ref l), some (.ref h.length), none, none, none, none, none, none] (h ++ [.dct [] []]) = some (.nx [some (.ref l), some (.ref h.length), x2, x3, x4, x5, x6, none] (h ++ [aD (resG ts τs [])])) := by
    refine x_for (xs := ts.map Tk.d) (h1 := h ++ [.dct [] []]) ?_ lp
    simp only [E_var, E_cst, E_glo, E_bin, E_cmp, chF_t, chF_f, E_chain, E_neg, E_and, E_or, E_not, E_ite, E_tup, E_lst, E_mlst, E_mdct, E_call, E_meth, E_prop, E_has, E_fld, E_bi, E_isi, E_idx, E_sl, E_slT, E_slH, E_stat, E_statK, E_dz, E_rev, E_callG, E_methK, E_make, E_makeK, E_dsp, E_inR, E_join, E_upd, E_app, Es_nil, Es_cons, I_seq, I_rng1, I_rng2, I_down, I_enum, I_zip, chO_t, chO_f, X_asg, X_asgF, X_asgI, X_augF, X_par, X_asgT, X_aug, X_expr, X_ret, X_retN, X_ite, X_pass, X_brk, X_cont, thnO_nx, thnO_rt, thnO_bk, thnO_ct, Xs_nil, Xs_cons, endO_nx, endO_rt, bi_lenT, bi_lenL, bi_tupL, bi_tupT, bi_lstT, bi_lstL, bi_int, bi_max, bi_min, bi_allB, bi_anyB, sl_tT, is_int, is_str, is_tup, is_bl, is_lst, look, put, setAll, wipeE, seqOf, boolOf, fget, fput, List.map_cons, List.map_nil, List.length_cons, List.length_nil, List.getElem?_cons_zero, List.getElem?_cons_succ, List.set_cons_zero, List.set_cons_succ, Option.getD_some, Option.bind_some, Option.map_some, List.cons_append, List.nil_append, List.replicate_zero, List.replicate_succ, ↓reduceIte, decide_true, decide_false, Nat.reduceEqDiff, Nat.reduceAdd, Nat.reduceSub, Nat.reduceLT, reduceCtorEq, Bool.not_true, Bool.not_false, Bool.or_false, Bool.or_true, Bool.false_or, Bool.true_or, o_add, o_sub, o_lt, o_le, o_gt, o_ge, o_eq, o_ne, o_isn, o_notn, back_same, nc0, nc1, nc2, nc3, nc4, nc5, nc6, nc7, nc8, nc9, nc10, nc11, nc12, nc20, beq_self_eq_true, Int.reduceEq, Int.reduceBEq, Int.reduceLT, Int.reduceLE, Int.reduceAdd, Int.reduceSub, Int.reduceNeg, ins_g (gob_app (x := .dct [] []) hl)]
  have hl2 := gob_app (x := aD (resG ts τs [])) hl
  have lc : ev P (run P (n + 44)) (.lc (.nm 2) [2] (.seq (.prop 25 (.var 0))) (.cst (.bl true)) (.idx (.var 1) (.var 2))) [some (.ref l), some (.ref h.length), x2, x3, x4, x5, x6, none] (h ++ [aD (resG ts τs [])]) = some (.lst ((names ts).map fun f => .int (lookN (resG ts τs []) f)), h ++ [aD (resG ts τs [])]) := by
    refine e_lc (xs := (names ts).map D.str) (h1 := h ++ [aD (resG ts τs [])]) ?_ (lim_big (by rw [List.length_map, names, List.length_map]; omega)) (lc_fun D.str (fun f => D.int (lookN (resG ts τs []) f)) fun f hf => ⟨[some (.ref l), some (.ref h.length), some (.str f), x3, x4, x5, x6, none], rfl, E_cst, ?_⟩)
    · simp only [E_var, E_cst, E_glo, E_bin, E_cmp, chF_t, chF_f, E_chain, E_neg, E_and, E_or, E_not, E_ite, E_tup, E_lst, E_mlst, E_mdct, E_call, E_meth, E_prop, E_has, E_fld, E_bi, E_isi, E_idx, E_sl, E_slT, E_slH, E_stat, E_statK, E_dz, E_rev, E_callG, E_methK, E_make, E_makeK, E_dsp, E_inR, E_join, E_upd, E_app, Es_nil, Es_cons, I_seq, I_rng1, I_rng2, I_down, I_enum, I_zip, chO_t, chO_f, X_asg, X_asgF, X_asgI, X_augF, X_par, X_asgT, X_aug, X_expr, X_ret, X_retN, X_ite, X_pass, X_brk, X_cont, thnO_nx, thnO_rt, thnO_bk, thnO_ct, Xs_nil, Xs_cons, endO_nx, endO_rt, bi_lenT, bi_lenL, bi_tupL, bi_tupT, bi_lstT, bi_lstL, bi_int, bi_max, bi_min, bi_allB, bi_anyB, sl_tT, is_int, is_str, is_tup, is_bl, is_lst, look, put, setAll, wipeE, seqOf, boolOf, fget, fput, List.map_cons, List.map_nil, List.length_cons, List.length_nil, List.getElem?_cons_zero, List.getElem?_cons_succ, List.set_cons_zero, List.set_cons_succ, Option.getD_some, Option.bind_some, Option.map_some, List.cons_append, List.nil_append, List.replicate_zero, List.replicate_succ, ↓reduceIte, decide_true, decide_false, Nat.reduceEqDiff, Nat.reduceAdd, Nat.reduceSub, Nat.reduceLT, reduceCtorEq, Bool.not_true, Bool.not_false, Bool.or_false, Bool.or_true, Bool.false_or, Bool.true_or, o_add, o_sub, o_lt, o_le, o_gt, o_ge, o_eq, o_ne, o_isn, o_notn, back_same, nc0, nc1, nc2, nc3, nc4, nc5, nc6, nc7, nc8, nc9, nc10, nc11, nc12, nc20, beq_self_eq_true, Int.reduceEq, Int.reduceBEq, Int.reduceLT, Int.reduceLE, Int.reduceAdd, Int.reduceSub, Int.reduceNeg, ins_g hl2, B.d 25 _ rfl, r_names B hl2 (show ts.length ≤ 1000 by omega)]
    · simp only [E_var, E_cst, E_glo, E_bin, E_cmp, chF_t, chF_f, E_chain, E_neg, E_and, E_or, E_not, E_ite, E_tup, E_lst, E_mlst, E_mdct, E_call, E_meth, E_prop, E_has, E_fld, E_bi, E_isi, E_idx, E_sl, E_slT, E_slH, E_stat, E_statK, E_dz, E_rev, E_callG, E_methK, E_make, E_makeK, E_dsp, E_inR, E_join, E_upd, E_app, Es_nil, Es_cons, I_seq, I_rng1, I_rng2, I_down, I_enum, I_zip, chO_t, chO_f, X_asg, X_asgF, X_asgI, X_augF, X_par, X_asgT, X_aug, X_expr, X_ret, X_retN, X_ite, X_pass, X_brk, X_cont, thnO_nx, thnO_rt, thnO_bk, thnO_ct, Xs_nil, Xs_cons, endO_nx, endO_rt, bi_lenT, bi_lenL, bi_tupL, bi_tupT, bi_lstT, bi_lstL, bi_int, bi_max, bi_min, bi_allB, bi_anyB, sl_tT, is_int, is_str, is_tup, is_bl, is_lst, look, put, setAll, wipeE, seqOf, boolOf, fget, fput, List.map_cons, List.map_nil, List.length_cons, List.length_nil, List.getElem?_cons_zero, List.getElem?_cons_succ, List.set_cons_zero, List.set_cons_succ, Option.getD_some, Option.bind_some, Option.map_some, List.cons_append, List.nil_append, List.replicate_zero, List.replicate_succ, ↓reduceIte, decide_true, decide_false, Nat.reduceEqDiff, Nat.reduceAdd, Nat.reduceSub, Nat.reduceLT, reduceCtorEq, Bool.not_true, Bool.not_false, Bool.or_false, Bool.or_true, Bool.false_or, Bool.true_or, o_add, o_sub, o_lt, o_le, o_gt, o_ge, o_eq, o_ne, o_isn, o_notn, back_same, nc0, nc1, nc2, nc3, nc4, nc5, nc6, nc7, nc8, nc9, nc10, nc11, nc12, nc20, beq_self_eq_true, Int.reduceEq, Int.reduceBEq, Int.reduceLT, Int.reduceLE, Int.reduceAdd, Int.reduceSub, Int.reduceNeg, ix_aD (app_at h (aD (resG ts τs []))) (show f ∈ (resG ts τs []).map (·.1) by rw [A.nm]; exact hf)]
  have fr : Fr (.tup ((names ts).map fun f => .int (lookN (resG ts τs []) f))) := fun k => by
    show D.lows k _ = true
    exact lows_fr (fun f => fr_of_flat rfl) _
  have bc := back_cut (t := [aD (resG ts τs [])]) c fr
  have st0 : exs P (run P (n + 44)) b28 [some (.ref l), none, none, none, none, none, none, none] h = some (.rt (.tup ((names ts).map fun f => .int (lookN (resG ts τs []) f))) (h ++ [aD (resG ts τs [])])) := by
    simp only [E_var, E_cst, E_glo, E_bin, E_cmp, chF_t, chF_f, E_chain, E_neg, E_and, E_or, E_not, E_ite, E_tup, E_lst, E_mlst, E_mdct, E_call, E_meth, E_prop, E_has, E_fld, E_bi, E_isi, E_idx, E_sl, E_slT, E_slH, E_stat, E_statK, E_dz, E_rev, E_callG, E_methK, E_make, E_makeK, E_dsp, E_inR, E_join, E_upd, E_app, Es_nil, Es_cons, I_seq, I_rng1, I_rng2, I_down, I_enum, I_zip, chO_t, chO_f, X_asg, X_asgF, X_asgI, X_augF, X_par, X_asgT, X_aug, X_expr, X_ret, X_retN, X_ite, X_pass, X_brk, X_cont, thnO_nx, thnO_rt, thnO_bk, thnO_ct, Xs_nil, Xs_cons, endO_nx, endO_rt, bi_lenT, bi_lenL, bi_tupL, bi_tupT, bi_lstT, bi_lstL, bi_int, bi_max, bi_min, bi_allB, bi_anyB, sl_tT, is_int, is_str, is_tup, is_bl, is_lst, look, put, setAll, wipeE, seqOf, boolOf, fget, fput, List.map_cons, List.map_nil, List.length_cons, List.length_nil, List.getElem?_cons_zero, List.getElem?_cons_succ, List.set_cons_zero, List.set_cons_succ, Option.getD_some, Option.bind_some, Option.map_some, List.cons_append, List.nil_append, List.replicate_zero, List.replicate_succ, ↓reduceIte, decide_true, decide_false, Nat.reduceEqDiff, Nat.reduceAdd, Nat.reduceSub, Nat.reduceLT, reduceCtorEq, Bool.not_true, Bool.not_false, Bool.or_false, Bool.or_true, Bool.false_or, Bool.true_or, o_add, o_sub, o_lt, o_le, o_gt, o_ge, o_eq, o_ne, o_isn, o_notn, back_same, nc0, nc1, nc2, nc3, nc4, nc5, nc6, nc7, nc8, nc9, nc10, nc11, nc12, nc20, beq_self_eq_true, Int.reduceEq, Int.reduceBEq, Int.reduceLT, Int.reduceLE, Int.reduceAdd, Int.reduceSub, Int.reduceNeg, b28, fl, lc]
  refine (run_go (B.d 28 _ rfl) rfl).trans ?_
  show (exs P (run P (n + 44)) b28 [some (.ref l), none, none, none, none, none, none, none] h).bind (endO .clo h.length) = _
  rw [st0]
  exact bc
end
end GB

/-! needs, uses -/
namespace GB
open VI
def add1 (ns : List (List Nat)) (f : List Nat) : List (List Nat) := if f ∈ ns then ns else ns ++ [f]
def addAll (ns : List (List Nat)) (fs : List (List Nat)) : List (List Nat) := fs.foldl add1 ns
def needF (ts : List Tk) : Nat → List (List Nat) → List (List Nat)
  | 0, ns => ns
  | k + 1, ns => needF ts k (match ts[k]? with
    | some t => if t.nm ∈ ns then addAll ns t.feeds else ns
    | none => ns)
def useF : List Tk → List (List Nat) → List (List Nat)
  | [], ns => ns
  | t :: r, ns => useF r (if t.feeds.any (fun f => decide (f ∈ ns)) then add1 ns t.nm else ns)
def downL : Nat → List D
  | 0 => []
  | k + 1 => .int k :: downL k
theorem rangeD_down : ∀ k : Nat, rangeD ((k : Int) - 1) (-1) = downL k
  | 0 => rfl
  | k + 1 => by
    have ih := rangeD_down k
    unfold rangeD at ih ⊢
    rw [show (((k + 1 : Nat) : Int) - 1 - (-1)).toNat = k + 1 by omega, List.range_succ_eq_map, List.map_cons, List.map_map, downL, ← ih, show ((k : Int) - 1 - (-1)).toNat = k by omega]
    congr 1
    · congr 1; omega
    · refine List.map_congr_left fun a _ => ?_
      simp only [Function.comp, Nat.succ_eq_add_one]
      congr 1
      omega
theorem any_strT {f : List Nat} : ∀ {ks : List (List Nat)}, f ∈ ks → (ks.map D.str).any (fun x => D.eqv x (.str f)) = true
  | [], m => by simp at m
  | k :: ks, m => by
    rw [List.map_cons, List.any_cons]
    by_cases e : k = f
    · rw [eqv_strT e, Bool.true_or]
    · rw [any_strT (by simpa [Ne.symm e] using m), Bool.or_true]
theorem repl_tt {f : List Nat} : ∀ ks : List (List Nat), repl (.str f) (.bl true) (ks.map D.str) (ks.map fun _ => .bl true) = ks.map fun _ => .bl true
  | [] => rfl
  | k :: ks => by
    simp only [List.map_cons, repl, repl_tt ks]
    congr 1
    split <;> rfl
theorem put_add {f : List Nat} {ks : List (List Nat)} : putAt (.str f) (.bl true) (ks.map D.str) (ks.map fun _ => .bl true) = ((add1 ks f).map D.str, (add1 ks f).map fun _ => .bl true) := by
  unfold add1
  by_cases m : f ∈ ks
  · rw [if_pos m]
    unfold putAt
    rw [any_strT m, repl_tt]; rfl
  · rw [if_neg m, put_new m]; simp
theorem dsp_add : ∀ {fs ks : List (List Nat)}, dspPut ((fs.map D.str).zip (fs.map fun _ => D.bl true)) (ks.map D.str) (ks.map fun _ => .bl true) = ((addAll ks fs).map D.str, (addAll ks fs).map fun _ => .bl true)
  | [], ks => rfl
  | f :: fs, ks => by
    simp only [List.map_cons, List.zip_cons_cons, dspPut, put_add]
    exact dsp_add
theorem add1_len {ns : List (List Nat)} {f : List Nat} : (add1 ns f).length ≤ ns.length + 1 := by
  unfold add1
  split
  · omega
  · simp
theorem addAll_len : ∀ {fs ns : List (List Nat)}, (addAll ns fs).length ≤ ns.length + fs.length
  | [], ns => by simp [addAll]
  | f :: fs, ns => by
    have h1 := addAll_len (fs := fs) (ns := add1 ns f)
    have h2 := add1_len (ns := ns) (f := f)
    simp only [addAll, List.foldl_cons, List.length_cons] at h1 ⊢
    omega
section
variable {P : Pg} {n l i d : Nat} {h : Hh} {ts : List Tk} {τs : List Tr} {t : Tk} {ns : List (List Nat)}
theorem set_add {f : List Nat} (hd : h[d]? = some (eD ns)) (few : ns.length ≤ 900) : setF h (.ref d) (.str f) (.bl true) = some (h.set d (eD (add1 ns f))) := by
  rw [set_dct hd rfl (keys_names ns) (lim_big (by rw [List.length_map]; omega)), put_add]; rfl
/-- needs' loop -/
theorem l_needs (B : Bs P) (g : GrOk [] ts) (hl : h[l]? = some (gob ts)) {x1 x3 x6 x7 : Option D} : ∀ {k : Nat} {ns : List (List Nat)} {x2 x5 : Option D}, k ≤ ts.length → ns.length + 3 * k ≤ 900 →
    ∃ x2' x5', forLoop (.nm 2) (exs P (run P n) (.cons (.asg (.nm 5) (.idx (.fld 1 (.var 0) 5) (.var 2))) (.cons (.ite (.cmp .inn (.idx (.var 5) (.cst (.int 0))) (.var 4)) (.cons (.expr (.upd (.var 4) (.dc (.nm 7) [7] (.seq (.idx (.var 5) (.cst (.int 2)))) (.var 7) (.cst (.bl true))))) .nil) .nil) .nil))) (downL k) [some (.ref l), x1, x2, x3, some (.ref h.length), x5, x6, x7] (h ++ [eD ns])
      = some (.nx [some (.ref l), x1, x2', x3, some (.ref h.length), x5', x6, x7] (h ++ [eD (needF ts k ns)]))
  | 0, ns, x2, x5, _, _ => ⟨x2, x5, rfl⟩
  | k + 1, ns, x2, x5, hk, hn => by
    have hi : ts[k]? = some ts[k] := List.getElem?_eq_getElem hk
    obtain ⟨t, ht⟩ : ∃ t, t = ts[k] := ⟨_, rfl⟩
    rw [← ht] at hi
    have ok := g.at hi
    have hl2 := gob_app (x := eD ns) hl
    have ix := ix_ts (h := h ++ [eD ns]) hi
    let δ1 : Ev := [some (.ref l), x1, some (.int k), x3, some (.ref h.length), some t.d, x6, x7]
    by_cases m : t.nm ∈ ns
    · have al := addAll_len (fs := t.feeds) (ns := ns)
      have fw := ok.few
      obtain ⟨x2', x5', ih⟩ := l_needs B g hl (x1 := x1) (x3 := x3) (x6 := x6) (x7 := x7) (k := k) (ns := addAll ns t.feeds) (x2 := some (.int k)) (x5 := some t.d) (by omega) (by omega)
      refine ⟨x2', x5', ?_⟩
      have dc : ev P (run P n) (.dc (.nm 7) [7] (.seq (.idx (.var 5) (.cst (.int 2)))) (.var 7) (.cst (.bl true))) [some (.ref l), x1, some (.int k), x3, some (.ref h.length), some t.d, x6, x7] (h ++ [eD ns]) = some (.dct (t.feeds.map D.str) (t.feeds.map fun _ => .bl true), h ++ [eD ns]) := by
        have dl := dc_names (h := h ++ [eD ns]) (k := ev P (run P n) (.var 7)) (v := ev P (run P n) (.cst (.bl true))) (j := 7) (δ := [some (.ref l), x1, some (.int k), x3, some (.ref h.length), some t.d, x6, none]) (fun f => by simp only [E_var, E_cst, E_glo, E_bin, E_cmp, chF_t, chF_f, E_chain, E_neg, E_and, E_or, E_not, E_ite, E_tup, E_lst, E_mlst, E_mdct, E_call, E_meth, E_prop, E_has, E_fld, E_bi, E_isi, E_idx, E_sl, E_slT, E_slH, E_stat, E_statK, E_dz, E_rev, E_callG, E_methK, E_make, E_makeK, E_dsp, E_inR, E_join, E_upd, E_app, Es_nil, Es_cons, I_seq, I_rng1, I_rng2, I_down, I_enum, I_zip, chO_t, chO_f, X_asg, X_asgF, X_asgI, X_augF, X_par, X_asgT, X_aug, X_expr, X_ret, X_retN, X_ite, X_pass, X_brk, X_cont, thnO_nx, thnO_rt, thnO_bk, thnO_ct, Xs_nil, Xs_cons, endO_nx, endO_rt, bi_lenT, bi_lenL, bi_tupL, bi_tupT, bi_lstT, bi_lstL, bi_int, bi_max, bi_min, bi_allB, bi_anyB, sl_tT, is_int, is_str, is_tup, is_bl, is_lst, look, put, setAll, wipeE, seqOf, boolOf, fget, fput, List.map_cons, List.map_nil, List.length_cons, List.length_nil, List.getElem?_cons_zero, List.getElem?_cons_succ, List.set_cons_zero, List.set_cons_succ, Option.getD_some, Option.bind_some, Option.map_some, List.cons_append, List.nil_append, List.replicate_zero, List.replicate_succ, ↓reduceIte, decide_true, decide_false, Nat.reduceEqDiff, Nat.reduceAdd, Nat.reduceSub, Nat.reduceLT, reduceCtorEq, Bool.not_true, Bool.not_false, Bool.or_false, Bool.or_true, Bool.false_or, Bool.true_or, o_add, o_sub, o_lt, o_le, o_gt, o_ge, o_eq, o_ne, o_isn, o_notn, back_same, nc0, nc1, nc2, nc3, nc4, nc5, nc6, nc7, nc8, nc9, nc10, nc11, nc12, nc20, beq_self_eq_true, Int.reduceEq, Int.reduceBEq, Int.reduceLT, Int.reduceLE, Int.reduceAdd, Int.reduceSub, Int.reduceNeg]) (fun f => by simp only [E_var, E_cst, E_glo, E_bin, E_cmp, chF_t, chF_f, E_chain, E_neg, E_and, E_or, E_not, E_ite, E_tup, E_lst, E_mlst, E_mdct, E_call, E_meth, E_prop, E_has, E_fld, E_bi, E_isi, E_idx, E_sl, E_slT, E_slH, E_stat, E_statK, E_dz, E_rev, E_callG, E_methK, E_make, E_makeK, E_dsp, E_inR, E_join, E_upd, E_app, Es_nil, Es_cons, I_seq, I_rng1, I_rng2, I_down, I_enum, I_zip, chO_t, chO_f, X_asg, X_asgF, X_asgI, X_augF, X_par, X_asgT, X_aug, X_expr, X_ret, X_retN, X_ite, X_pass, X_brk, X_cont, thnO_nx, thnO_rt, thnO_bk, thnO_ct, Xs_nil, Xs_cons, endO_nx, endO_rt, bi_lenT, bi_lenL, bi_tupL, bi_tupT, bi_lstT, bi_lstL, bi_int, bi_max, bi_min, bi_allB, bi_anyB, sl_tT, is_int, is_str, is_tup, is_bl, is_lst, look, put, setAll, wipeE, seqOf, boolOf, fget, fput, List.map_cons, List.map_nil, List.length_cons, List.length_nil, List.getElem?_cons_zero, List.getElem?_cons_succ, List.set_cons_zero, List.set_cons_succ, Option.getD_some, Option.bind_some, Option.map_some, List.cons_append, List.nil_append, List.replicate_zero, List.replicate_succ, ↓reduceIte, decide_true, decide_false, Nat.reduceEqDiff, Nat.reduceAdd, Nat.reduceSub, Nat.reduceLT, reduceCtorEq, Bool.not_true, Bool.not_false, Bool.or_false, Bool.or_true, Bool.false_or, Bool.true_or, o_add, o_sub, o_lt, o_le, o_gt, o_ge, o_eq, o_ne, o_isn, o_notn, back_same, nc0, nc1, nc2, nc3, nc4, nc5, nc6, nc7, nc8, nc9, nc10, nc11, nc12, nc20, beq_self_eq_true, Int.reduceEq, Int.reduceBEq, Int.reduceLT, Int.reduceLE, Int.reduceAdd, Int.reduceSub, Int.reduceNeg]) (fs := t.feeds) (ks := []) (by simpa using ok.nd)
        refine e_dc (xs := t.feeds.map D.str) (h1 := h ++ [eD ns]) ?_ (lim_big (by rw [List.length_map]; omega)) (by
          have := dl
          simp only [List.map_nil, List.nil_append] at this
          exact this)
        simp only [E_var, E_cst, E_glo, E_bin, E_cmp, chF_t, chF_f, E_chain, E_neg, E_and, E_or, E_not, E_ite, E_tup, E_lst, E_mlst, E_mdct, E_call, E_meth, E_prop, E_has, E_fld, E_bi, E_isi, E_idx, E_sl, E_slT, E_slH, E_stat, E_statK, E_dz, E_rev, E_callG, E_methK, E_make, E_makeK, E_dsp, E_inR, E_join, E_upd, E_app, Es_nil, Es_cons, I_seq, I_rng1, I_rng2, I_down, I_enum, I_zip, chO_t, chO_f, X_asg, X_asgF, X_asgI, X_augF, X_par, X_asgT, X_aug, X_expr, X_ret, X_retN, X_ite, X_pass, X_brk, X_cont, thnO_nx, thnO_rt, thnO_bk, thnO_ct, Xs_nil, Xs_cons, endO_nx, endO_rt, bi_lenT, bi_lenL, bi_tupL, bi_tupT, bi_lstT, bi_lstL, bi_int, bi_max, bi_min, bi_allB, bi_anyB, sl_tT, is_int, is_str, is_tup, is_bl, is_lst, look, put, setAll, wipeE, seqOf, boolOf, fget, fput, List.map_cons, List.map_nil, List.length_cons, List.length_nil, List.getElem?_cons_zero, List.getElem?_cons_succ, List.set_cons_zero, List.set_cons_succ, Option.getD_some, Option.bind_some, Option.map_some, List.cons_append, List.nil_append, List.replicate_zero, List.replicate_succ, ↓reduceIte, decide_true, decide_false, Nat.reduceEqDiff, Nat.reduceAdd, Nat.reduceSub, Nat.reduceLT, reduceCtorEq, Bool.not_true, Bool.not_false, Bool.or_false, Bool.or_true, Bool.false_or, Bool.true_or, o_add, o_sub, o_lt, o_le, o_gt, o_ge, o_eq, o_ne, o_isn, o_notn, back_same, nc0, nc1, nc2, nc3, nc4, nc5, nc6, nc7, nc8, nc9, nc10, nc11, nc12, nc20, beq_self_eq_true, Int.reduceEq, Int.reduceBEq, Int.reduceLT, Int.reduceLE, Int.reduceAdd, Int.reduceSub, Int.reduceNeg, ix_d2]
      have lz : (ns.map D.str).length + (t.feeds.map D.str).length < lim := lim_big (by simp only [List.length_map]; omega)
      have at0 := app_at h (eD ns)
      have e0 : some (eD ns) = some (.dct (ns.map D.str) (ns.map fun _ => .bl true)) := rfl
      rw [e0] at at0
      rw [downL, for_nx (δ1 := [some (.ref l), x1, some (.int k), x3, some (.ref h.length), x5, x6, x7]) (δ2 := [some (.ref l), x1, some (.int k), x3, some (.ref h.length), some t.d, x6, x7]) (h2 := h ++ [eD (addAll ns t.feeds)]) rfl, ih, needF, hi]
      · simp only [m, if_true]
      · simp only [E_var, E_cst, E_glo, E_bin, E_cmp, chF_t, chF_f, E_chain, E_neg, E_and, E_or, E_not, E_ite, E_tup, E_lst, E_mlst, E_mdct, E_call, E_meth, E_prop, E_has, E_fld, E_bi, E_isi, E_idx, E_sl, E_slT, E_slH, E_stat, E_statK, E_dz, E_rev, E_callG, E_methK, E_make, E_makeK, E_dsp, E_inR, E_join, E_upd, E_app, Es_nil, Es_cons, I_seq, I_rng1, I_rng2, I_down, I_enum, I_zip, chO_t, chO_f, X_asg, X_asgF, X_asgI, X_augF, X_par, X_asgT, X_aug, X_expr, X_ret, X_retN, X_ite, X_pass, X_brk, X_cont, thnO_nx, thnO_rt, thnO_bk, thnO_ct, Xs_nil, Xs_cons, endO_nx, endO_rt, bi_lenT, bi_lenL, bi_tupL, bi_tupT, bi_lstT, bi_lstL, bi_int, bi_max, bi_min, bi_allB, bi_anyB, sl_tT, is_int, is_str, is_tup, is_bl, is_lst, look, put, setAll, wipeE, seqOf, boolOf, fget, fput, List.map_cons, List.map_nil, List.length_cons, List.length_nil, List.getElem?_cons_zero, List.getElem?_cons_succ, List.set_cons_zero, List.set_cons_succ, Option.getD_some, Option.bind_some, Option.map_some, List.cons_append, List.nil_append, List.replicate_zero, List.replicate_succ, ↓reduceIte, decide_true, decide_false, Nat.reduceEqDiff, Nat.reduceAdd, Nat.reduceSub, Nat.reduceLT, reduceCtorEq, Bool.not_true, Bool.not_false, Bool.or_false, Bool.or_true, Bool.false_or, Bool.true_or, o_add, o_sub, o_lt, o_le, o_gt, o_ge, o_eq, o_ne, o_isn, o_notn, back_same, nc0, nc1, nc2, nc3, nc4, nc5, nc6, nc7, nc8, nc9, nc10, nc11, nc12, nc20, beq_self_eq_true, Int.reduceEq, Int.reduceBEq, Int.reduceLT, Int.reduceLE, Int.reduceAdd, Int.reduceSub, Int.reduceNeg, ins_g hl2, ix, ix_d0, in_dict (app_at h (eD ns)), m, dc, at0, lz, dsp_add, app_set]
        rfl
    · obtain ⟨x2', x5', ih⟩ := l_needs B g hl (x1 := x1) (x3 := x3) (x6 := x6) (x7 := x7) (k := k) (ns := ns) (x2 := some (.int k)) (x5 := some t.d) (by omega) (by omega)
      refine ⟨x2', x5', ?_⟩
      rw [downL, for_nx (δ1 := [some (.ref l), x1, some (.int k), x3, some (.ref h.length), x5, x6, x7]) (δ2 := [some (.ref l), x1, some (.int k), x3, some (.ref h.length), some t.d, x6, x7]) (h2 := h ++ [eD ns]) rfl, ih, needF, hi]
      · simp only [m, if_false]
      · simp only [E_var, E_cst, E_glo, E_bin, E_cmp, chF_t, chF_f, E_chain, E_neg, E_and, E_or, E_not, E_ite, E_tup, E_lst, E_mlst, E_mdct, E_call, E_meth, E_prop, E_has, E_fld, E_bi, E_isi, E_idx, E_sl, E_slT, E_slH, E_stat, E_statK, E_dz, E_rev, E_callG, E_methK, E_make, E_makeK, E_dsp, E_inR, E_join, E_upd, E_app, Es_nil, Es_cons, I_seq, I_rng1, I_rng2, I_down, I_enum, I_zip, chO_t, chO_f, X_asg, X_asgF, X_asgI, X_augF, X_par, X_asgT, X_aug, X_expr, X_ret, X_retN, X_ite, X_pass, X_brk, X_cont, thnO_nx, thnO_rt, thnO_bk, thnO_ct, Xs_nil, Xs_cons, endO_nx, endO_rt, bi_lenT, bi_lenL, bi_tupL, bi_tupT, bi_lstT, bi_lstL, bi_int, bi_max, bi_min, bi_allB, bi_anyB, sl_tT, is_int, is_str, is_tup, is_bl, is_lst, look, put, setAll, wipeE, seqOf, boolOf, fget, fput, List.map_cons, List.map_nil, List.length_cons, List.length_nil, List.getElem?_cons_zero, List.getElem?_cons_succ, List.set_cons_zero, List.set_cons_succ, Option.getD_some, Option.bind_some, Option.map_some, List.cons_append, List.nil_append, List.replicate_zero, List.replicate_succ, ↓reduceIte, decide_true, decide_false, Nat.reduceEqDiff, Nat.reduceAdd, Nat.reduceSub, Nat.reduceLT, reduceCtorEq, Bool.not_true, Bool.not_false, Bool.or_false, Bool.or_true, Bool.false_or, Bool.true_or, o_add, o_sub, o_lt, o_le, o_gt, o_ge, o_eq, o_ne, o_isn, o_notn, back_same, nc0, nc1, nc2, nc3, nc4, nc5, nc6, nc7, nc8, nc9, nc10, nc11, nc12, nc20, beq_self_eq_true, Int.reduceEq, Int.reduceBEq, Int.reduceLT, Int.reduceLE, Int.reduceAdd, Int.reduceSub, Int.reduceNeg, ins_g hl2, ix, ix_d0, in_dict (app_at h (eD ns)), m]
theorem fr_names {q : List (List Nat)} : Fr (.tup (q.map D.str)) := fun k => lows_str q
theorem lc_names (B : Bs P) (hl : h[l]? = some (gob ts)) (few : ts.length ≤ 20) (hd : h[d]? = some (eD ns)) {j m : Nat} {δ : Ev} (d0 : look δ 0 = some (.ref l)) (dm : ∀ f : List Nat, look (δ.set j (some (.str f))) m = some (.ref d)) (dj : ∀ f : List Nat, look (δ.set j (some (.str f))) j = some (.str f)) (hw : wipeE δ [j] = δ) :
    ev P (run P (n + 1)) (.lc (.nm j) [j] (.seq (.prop 25 (.var 0))) (.cmp .inn (.var j) (.var m)) (.var j)) δ h = some (.lst (((names ts).filter fun f => decide (f ∈ ns)).map D.str), h) := by
  refine e_lc (xs := (names ts).map D.str) (h1 := h) ?_ (lim_big (by rw [List.length_map, names, List.length_map]; omega)) ?_
  · simp only [I_seq, E_prop, E_var, d0, Option.map_some, Option.bind_some, ins_g hl, B.d 25 _ rfl, if_true, r_names B hl (show ts.length ≤ 1000 by omega), seqOf]
  · rw [hw]
    refine lc_filter D.str (fun f => decide (f ∈ ns)) D.str fun f _ => ⟨δ.set j (some (.str f)), rfl, ?_, ?_⟩
    · simp only [E_cmp, E_var, dj, dm, Option.map_some, Option.bind_some, in_dict hd]
    · simp only [E_var, dj, Option.map_some]
theorem i_down {Φ : Fn} {δ : Ev} {a b : E} {m n : Int} {h1 h2 : Hh} (ha : ev P Φ a δ h = some (.int m, h1)) (hb : ev P Φ b δ h1 = some (.int n, h2)) (hw : (within m && within n) = true) : evI P Φ (.down a b) δ h = some (rangeD m n, h2) := by simp only [evI, ha, hb, hw, Option.bind_some, if_true]
theorem within_dn {k : Nat} (hk : k ≤ 100000) : (within (k : Int) && within (-1)) = true := by
  rw [within_nat hk]
  decide
theorem f_needs (B : Bs P) (g : GrOk [] ts) (few : ts.length ≤ 20) (hl : h[l]? = some (gob ts)) (e : ts[i]? = some t) : ∃ x2 x5, ex P (run P (n + 2)) (.for (.nm 2) (.down (.var 3) (.neg (.cst (.int 1)))) (.cons (.asg (.nm 5) (.idx (.fld 1 (.var 0) 5) (.var 2))) (.cons (.ite (.cmp .inn (.idx (.var 5) (.cst (.int 0))) (.var 4)) (.cons (.expr (.upd (.var 4) (.dc (.nm 7) [7] (.seq (.idx (.var 5) (.cst (.int 2)))) (.var 7) (.cst (.bl true))))) .nil) .nil) .nil))) [some (.ref l), some (.str t.nm), none, some (.int i), some (.ref h.length), none, none, none] (h ++ [eD [t.nm]]) = some (.nx [some (.ref l), some (.str t.nm), x2, some (.int i), some (.ref h.length), x5, none, none] (h ++ [eD (needF ts (i + 1) [t.nm])])) := by
  have hi := (List.getElem?_eq_some_iff.mp e).1
  obtain ⟨x2, x5, lp⟩ := l_needs (n := n + 2) B g hl (x1 := some (.str t.nm)) (x3 := some (.int i)) (x6 := none) (x7 := none) (k := i + 1) (ns := [t.nm]) (x2 := none) (x5 := none) (by omega) (by simp; omega)
  have w1 := within_dn (show i ≤ 100000 by omega)
  refine ⟨x2, x5, ?_⟩
  refine x_for (xs := downL (i + 1)) (h1 := h ++ [eD [t.nm]]) ?_ lp
  refine (i_down (m := (i : Int)) (n := -1) (e_var rfl) (E_neg.trans rfl) w1).trans ?_
  rw [← rangeD_down, show (((i + 1 : Nat) : Int) - 1) = i by omega]
theorem s1_needs (B : Bs P) (g : GrOk [] ts) (hl : h[l]? = some (gob ts)) (e : ts[i]? = some t) : ex P (run P (n + 2)) (.asgT [(.nm 3), (.nm 4)] (.cons (.meth 19 (.var 0) (.cons (.var 1) .nil)) (.cons (.dsp (.cons (.var 1) (.cons (.cst (.bl true)) .nil))) .nil))) [some (.ref l), some (.str t.nm), none, none, none, none, none, none] h = some (.nx [some (.ref l), some (.str t.nm), none, some (.int i), some (.ref h.length), none, none, none] (h ++ [eD [t.nm]])) := by
  have dp : dspPut [(D.str t.nm, .bl true)] [] [] = ([.str t.nm], [.bl true]) := rfl
  have pl := r_place (n := n) B hl g.nd.1 e
  simp only [E_var, E_cst, E_glo, E_bin, E_cmp, chF_t, chF_f, E_chain, E_neg, E_and, E_or, E_not, E_ite, E_tup, E_lst, E_mlst, E_mdct, E_call, E_meth, E_prop, E_has, E_fld, E_bi, E_isi, E_idx, E_sl, E_slT, E_slH, E_stat, E_statK, E_dz, E_rev, E_callG, E_methK, E_make, E_makeK, E_dsp, E_inR, E_join, E_upd, E_app, Es_nil, Es_cons, I_seq, I_rng1, I_rng2, I_down, I_enum, I_zip, chO_t, chO_f, X_asg, X_asgF, X_asgI, X_augF, X_par, X_asgT, X_aug, X_expr, X_ret, X_retN, X_ite, X_pass, X_brk, X_cont, thnO_nx, thnO_rt, thnO_bk, thnO_ct, Xs_nil, Xs_cons, endO_nx, endO_rt, bi_lenT, bi_lenL, bi_tupL, bi_tupT, bi_lstT, bi_lstL, bi_int, bi_max, bi_min, bi_allB, bi_anyB, sl_tT, is_int, is_str, is_tup, is_bl, is_lst, look, put, setAll, wipeE, seqOf, boolOf, fget, fput, List.map_cons, List.map_nil, List.length_cons, List.length_nil, List.getElem?_cons_zero, List.getElem?_cons_succ, List.set_cons_zero, List.set_cons_succ, Option.getD_some, Option.bind_some, Option.map_some, List.cons_append, List.nil_append, List.replicate_zero, List.replicate_succ, ↓reduceIte, decide_true, decide_false, Nat.reduceEqDiff, Nat.reduceAdd, Nat.reduceSub, Nat.reduceLT, reduceCtorEq, Bool.not_true, Bool.not_false, Bool.or_false, Bool.or_true, Bool.false_or, Bool.true_or, o_add, o_sub, o_lt, o_le, o_gt, o_ge, o_eq, o_ne, o_isn, o_notn, back_same, nc0, nc1, nc2, nc3, nc4, nc5, nc6, nc7, nc8, nc9, nc10, nc11, nc12, nc20, beq_self_eq_true, Int.reduceEq, Int.reduceBEq, Int.reduceLT, Int.reduceLE, Int.reduceAdd, Int.reduceSub, Int.reduceNeg, ins_g hl, B.d 19 _ rfl, pl, pairUp, isKey, List.all_cons, List.all_nil, Bool.and_self, dp, putsX]
  rfl
/-- needs -/
theorem r_needs (B : Bs P) (c : Cl h) (g : GrOk [] ts) (few : ts.length ≤ 20) (hl : h[l]? = some (gob ts)) (e : ts[i]? = some t) : run P (n + 3) 29 [.ref l, .str t.nm] h = some (.tup (((names ts).filter fun f => decide (f ∈ needF ts (i + 1) [t.nm])).map D.str), h) := by
  obtain ⟨x2, x5, fl⟩ := f_needs (n := n) B g few hl e
  have lc := lc_names (n := n + 1) (h := h ++ [eD (needF ts (i + 1) [t.nm])]) (j := 6) (m := 4) (δ := [some (.ref l), some (.str t.nm), x2, some (.int i), some (.ref h.length), x5, none, none]) B (gob_app hl) few (app_at _ _) rfl (fun _ => rfl) (fun _ => rfl) rfl
  have bc := back_cut (t := [eD (needF ts (i + 1) [t.nm])]) c (fr_names (q := (names ts).filter fun f => decide (f ∈ needF ts (i + 1) [t.nm])))
  have st0 : exs P (run P (n + 2)) b29 [some (.ref l), some (.str t.nm), none, none, none, none, none, none] h = some (.rt (.tup (((names ts).filter fun f => decide (f ∈ needF ts (i + 1) [t.nm])).map D.str)) (h ++ [eD (needF ts (i + 1) [t.nm])])) := by
    exact (exs_nx (s1_needs B g hl e)).trans ((exs_nx fl).trans (exs_rt (x_ret (e_bi (es_cons lc es_nil) bi_tupL))))
  refine (run_go (B.d 29 _ rfl) rfl).trans ?_
  show (exs P (run P (n + 2)) b29 [some (.ref l), some (.str t.nm), none, none, none, none, none, none] h).bind (endO .clo h.length) = _
  rw [st0]
  exact bc
/-- uses' loop -/
theorem l_uses (B : Bs P) (hl : h[l]? = some (gob ts)) {x0 x1 x3 x5 x6 : Option D} : ∀ {r : List Tk} {ns : List (List Nat)} {x2 : Option D}, (∀ t ∈ r, t.feeds.length ≤ 3) → ns.length + r.length ≤ 900 →
    ∃ x2', forLoop (.nm 2) (exs P (run P n) (.cons (.ite (.bi .any (.cons (.lc (.nm 6) [6] (.seq (.idx (.var 2) (.cst (.int 2)))) (.cst (.bl true)) (.cmp .inn (.var 6) (.var 4))) .nil)) (.cons (.asgI (.var 4) (.idx (.var 2) (.cst (.int 0))) (.cst (.bl true))) .nil) .nil) .nil)) (r.map Tk.d) [x0, x1, x2, x3, some (.ref h.length), x5, none] (h ++ [eD ns])
      = some (.nx [x0, x1, x2', x3, some (.ref h.length), x5, none] (h ++ [eD (useF r ns)]))
  | [], ns, x2, _, _ => ⟨x2, rfl⟩
  | t :: r, ns, x2, fw, hn => by
    have f3 := fw t (by simp)
    have hn' : ns.length + (r.length + 1) ≤ 900 := by simpa using hn
    have lc : ev P (run P n) (.lc (.nm 6) [6] (.seq (.idx (.var 2) (.cst (.int 2)))) (.cst (.bl true)) (.cmp .inn (.var 6) (.var 4))) [x0, x1, some t.d, x3, some (.ref h.length), x5, none] (h ++ [eD ns]) = some (.lst ((t.feeds.map fun f => decide (f ∈ ns)).map D.bl), h ++ [eD ns]) := by
      refine (e_lc (xs := t.feeds.map D.str) (h1 := h ++ [eD ns]) (by simp only [E_var, E_cst, E_glo, E_bin, E_cmp, chF_t, chF_f, E_chain, E_neg, E_and, E_or, E_not, E_ite, E_tup, E_lst, E_mlst, E_mdct, E_call, E_meth, E_prop, E_has, E_fld, E_bi, E_isi, E_idx, E_sl, E_slT, E_slH, E_stat, E_statK, E_dz, E_rev, E_callG, E_methK, E_make, E_makeK, E_dsp, E_inR, E_join, E_upd, E_app, Es_nil, Es_cons, I_seq, I_rng1, I_rng2, I_down, I_enum, I_zip, chO_t, chO_f, X_asg, X_asgF, X_asgI, X_augF, X_par, X_asgT, X_aug, X_expr, X_ret, X_retN, X_ite, X_pass, X_brk, X_cont, thnO_nx, thnO_rt, thnO_bk, thnO_ct, Xs_nil, Xs_cons, endO_nx, endO_rt, bi_lenT, bi_lenL, bi_tupL, bi_tupT, bi_lstT, bi_lstL, bi_int, bi_max, bi_min, bi_allB, bi_anyB, sl_tT, is_int, is_str, is_tup, is_bl, is_lst, look, put, setAll, wipeE, seqOf, boolOf, fget, fput, List.map_cons, List.map_nil, List.length_cons, List.length_nil, List.getElem?_cons_zero, List.getElem?_cons_succ, List.set_cons_zero, List.set_cons_succ, Option.getD_some, Option.bind_some, Option.map_some, List.cons_append, List.nil_append, List.replicate_zero, List.replicate_succ, ↓reduceIte, decide_true, decide_false, Nat.reduceEqDiff, Nat.reduceAdd, Nat.reduceSub, Nat.reduceLT, reduceCtorEq, Bool.not_true, Bool.not_false, Bool.or_false, Bool.or_true, Bool.false_or, Bool.true_or, o_add, o_sub, o_lt, o_le, o_gt, o_ge, o_eq, o_ne, o_isn, o_notn, back_same, nc0, nc1, nc2, nc3, nc4, nc5, nc6, nc7, nc8, nc9, nc10, nc11, nc12, nc20, beq_self_eq_true, Int.reduceEq, Int.reduceBEq, Int.reduceLT, Int.reduceLE, Int.reduceAdd, Int.reduceSub, Int.reduceNeg, ix_d2]) (lim_big (by rw [List.length_map]; omega)) (lc_fun D.str (fun f => D.bl (decide (f ∈ ns))) fun f hf => ⟨[x0, x1, some t.d, x3, some (.ref h.length), x5, some (.str f)], rfl, E_cst, ?_⟩)).trans (by rw [List.map_map]; rfl)
      simp only [E_var, E_cst, E_glo, E_bin, E_cmp, chF_t, chF_f, E_chain, E_neg, E_and, E_or, E_not, E_ite, E_tup, E_lst, E_mlst, E_mdct, E_call, E_meth, E_prop, E_has, E_fld, E_bi, E_isi, E_idx, E_sl, E_slT, E_slH, E_stat, E_statK, E_dz, E_rev, E_callG, E_methK, E_make, E_makeK, E_dsp, E_inR, E_join, E_upd, E_app, Es_nil, Es_cons, I_seq, I_rng1, I_rng2, I_down, I_enum, I_zip, chO_t, chO_f, X_asg, X_asgF, X_asgI, X_augF, X_par, X_asgT, X_aug, X_expr, X_ret, X_retN, X_ite, X_pass, X_brk, X_cont, thnO_nx, thnO_rt, thnO_bk, thnO_ct, Xs_nil, Xs_cons, endO_nx, endO_rt, bi_lenT, bi_lenL, bi_tupL, bi_tupT, bi_lstT, bi_lstL, bi_int, bi_max, bi_min, bi_allB, bi_anyB, sl_tT, is_int, is_str, is_tup, is_bl, is_lst, look, put, setAll, wipeE, seqOf, boolOf, fget, fput, List.map_cons, List.map_nil, List.length_cons, List.length_nil, List.getElem?_cons_zero, List.getElem?_cons_succ, List.set_cons_zero, List.set_cons_succ, Option.getD_some, Option.bind_some, Option.map_some, List.cons_append, List.nil_append, List.replicate_zero, List.replicate_succ, ↓reduceIte, decide_true, decide_false, Nat.reduceEqDiff, Nat.reduceAdd, Nat.reduceSub, Nat.reduceLT, reduceCtorEq, Bool.not_true, Bool.not_false, Bool.or_false, Bool.or_true, Bool.false_or, Bool.true_or, o_add, o_sub, o_lt, o_le, o_gt, o_ge, o_eq, o_ne, o_isn, o_notn, back_same, nc0, nc1, nc2, nc3, nc4, nc5, nc6, nc7, nc8, nc9, nc10, nc11, nc12, nc20, beq_self_eq_true, Int.reduceEq, Int.reduceBEq, Int.reduceLT, Int.reduceLE, Int.reduceAdd, Int.reduceSub, Int.reduceNeg, in_dict (app_at h (eD ns))]
    have an : (t.feeds.map fun f => decide (f ∈ ns)).any id = t.feeds.any fun f => decide (f ∈ ns) := by rw [List.any_map]; rfl
    cases q : t.feeds.any fun f => decide (f ∈ ns) with
    | true =>
      have al := add1_len (ns := ns) (f := t.nm)
      obtain ⟨x2', ih⟩ := l_uses B hl (x0 := x0) (x1 := x1) (x3 := x3) (x5 := x5) (x6 := x6) (r := r) (ns := add1 ns t.nm) (x2 := some t.d) (fun u hu => fw u (by simp [hu])) (by omega)
      refine ⟨x2', ?_⟩
      have st := set_add (f := t.nm) (app_at h (eD ns)) (by omega)
      rw [app_set] at st
      rw [List.map_cons, for_nx (δ1 := [x0, x1, some t.d, x3, some (.ref h.length), x5, none]) (δ2 := [x0, x1, some t.d, x3, some (.ref h.length), x5, none]) (h2 := h ++ [eD (add1 ns t.nm)]) rfl, ih, useF]
      · simp only [q, if_true]
      · simp only [E_var, E_cst, E_glo, E_bin, E_cmp, chF_t, chF_f, E_chain, E_neg, E_and, E_or, E_not, E_ite, E_tup, E_lst, E_mlst, E_mdct, E_call, E_meth, E_prop, E_has, E_fld, E_bi, E_isi, E_idx, E_sl, E_slT, E_slH, E_stat, E_statK, E_dz, E_rev, E_callG, E_methK, E_make, E_makeK, E_dsp, E_inR, E_join, E_upd, E_app, Es_nil, Es_cons, I_seq, I_rng1, I_rng2, I_down, I_enum, I_zip, chO_t, chO_f, X_asg, X_asgF, X_asgI, X_augF, X_par, X_asgT, X_aug, X_expr, X_ret, X_retN, X_ite, X_pass, X_brk, X_cont, thnO_nx, thnO_rt, thnO_bk, thnO_ct, Xs_nil, Xs_cons, endO_nx, endO_rt, bi_lenT, bi_lenL, bi_tupL, bi_tupT, bi_lstT, bi_lstL, bi_int, bi_max, bi_min, bi_allB, bi_anyB, sl_tT, is_int, is_str, is_tup, is_bl, is_lst, look, put, setAll, wipeE, seqOf, boolOf, fget, fput, List.map_cons, List.map_nil, List.length_cons, List.length_nil, List.getElem?_cons_zero, List.getElem?_cons_succ, List.set_cons_zero, List.set_cons_succ, Option.getD_some, Option.bind_some, Option.map_some, List.cons_append, List.nil_append, List.replicate_zero, List.replicate_succ, ↓reduceIte, decide_true, decide_false, Nat.reduceEqDiff, Nat.reduceAdd, Nat.reduceSub, Nat.reduceLT, reduceCtorEq, Bool.not_true, Bool.not_false, Bool.or_false, Bool.or_true, Bool.false_or, Bool.true_or, o_add, o_sub, o_lt, o_le, o_gt, o_ge, o_eq, o_ne, o_isn, o_notn, back_same, nc0, nc1, nc2, nc3, nc4, nc5, nc6, nc7, nc8, nc9, nc10, nc11, nc12, nc20, beq_self_eq_true, Int.reduceEq, Int.reduceBEq, Int.reduceLT, Int.reduceLE, Int.reduceAdd, Int.reduceSub, Int.reduceNeg, lc, an, q, ix_d0, st]
    | false =>
      obtain ⟨x2', ih⟩ := l_uses B hl (x0 := x0) (x1 := x1) (x3 := x3) (x5 := x5) (x6 := x6) (r := r) (ns := ns) (x2 := some t.d) (fun u hu => fw u (by simp [hu])) (by omega)
      refine ⟨x2', ?_⟩
      rw [List.map_cons, for_nx (δ1 := [x0, x1, some t.d, x3, some (.ref h.length), x5, none]) (δ2 := [x0, x1, some t.d, x3, some (.ref h.length), x5, none]) (h2 := h ++ [eD ns]) rfl, ih, useF]
      · simp only [q, Bool.false_eq_true, if_false]
      · simp only [E_var, E_cst, E_glo, E_bin, E_cmp, chF_t, chF_f, E_chain, E_neg, E_and, E_or, E_not, E_ite, E_tup, E_lst, E_mlst, E_mdct, E_call, E_meth, E_prop, E_has, E_fld, E_bi, E_isi, E_idx, E_sl, E_slT, E_slH, E_stat, E_statK, E_dz, E_rev, E_callG, E_methK, E_make, E_makeK, E_dsp, E_inR, E_join, E_upd, E_app, Es_nil, Es_cons, I_seq, I_rng1, I_rng2, I_down, I_enum, I_zip, chO_t, chO_f, X_asg, X_asgF, X_asgI, X_augF, X_par, X_asgT, X_aug, X_expr, X_ret, X_retN, X_ite, X_pass, X_brk, X_cont, thnO_nx, thnO_rt, thnO_bk, thnO_ct, Xs_nil, Xs_cons, endO_nx, endO_rt, bi_lenT, bi_lenL, bi_tupL, bi_tupT, bi_lstT, bi_lstL, bi_int, bi_max, bi_min, bi_allB, bi_anyB, sl_tT, is_int, is_str, is_tup, is_bl, is_lst, look, put, setAll, wipeE, seqOf, boolOf, fget, fput, List.map_cons, List.map_nil, List.length_cons, List.length_nil, List.getElem?_cons_zero, List.getElem?_cons_succ, List.set_cons_zero, List.set_cons_succ, Option.getD_some, Option.bind_some, Option.map_some, List.cons_append, List.nil_append, List.replicate_zero, List.replicate_succ, ↓reduceIte, decide_true, decide_false, Nat.reduceEqDiff, Nat.reduceAdd, Nat.reduceSub, Nat.reduceLT, reduceCtorEq, Bool.not_true, Bool.not_false, Bool.or_false, Bool.or_true, Bool.false_or, Bool.true_or, o_add, o_sub, o_lt, o_le, o_gt, o_ge, o_eq, o_ne, o_isn, o_notn, back_same, nc0, nc1, nc2, nc3, nc4, nc5, nc6, nc7, nc8, nc9, nc10, nc11, nc12, nc20, beq_self_eq_true, Int.reduceEq, Int.reduceBEq, Int.reduceLT, Int.reduceLE, Int.reduceAdd, Int.reduceSub, Int.reduceNeg, lc, an, q]
/-- uses -/
theorem r_uses (B : Bs P) (c : Cl h) (g : GrOk [] ts) (few : ts.length ≤ 20) (hl : h[l]? = some (gob ts)) (e : ts[i]? = some t) : run P (n + 3) 30 [.ref l, .str t.nm] h = some (.tup (((names ts).filter fun f => decide (f ∈ useF (ts.drop i) [t.nm])).map D.str), h) := by
  obtain ⟨x2, lp⟩ := l_uses (n := n + 2) B hl (x0 := some (.ref l)) (x1 := some (.str t.nm)) (x3 := some (.int i)) (x5 := none) (x6 := none) (r := ts.drop i) (ns := [t.nm]) (x2 := none) (fun u hu => by
    obtain ⟨j, hj⟩ := List.getElem?_of_mem (List.mem_of_mem_drop hu)
    exact (g.at hj).few) (by simp; omega)
  rw [List.map_drop] at lp
  have fl : ex P (run P (n + 2)) (.for (.nm 2) (.seq (.slT (.fld 1 (.var 0) 5) (.var 3))) (.cons (.ite (.bi .any (.cons (.lc (.nm 6) [6] (.seq (.idx (.var 2) (.cst (.int 2)))) (.cst (.bl true)) (.cmp .inn (.var 6) (.var 4))) .nil)) (.cons (.asgI (.var 4) (.idx (.var 2) (.cst (.int 0))) (.cst (.bl true))) .nil) .nil) .nil)) [some (.ref l), some (.str t.nm), none, some (.int i), some (.ref h.length), none, none] (h ++ [eD [t.nm]]) = some (.nx [some (.ref l), some (.str t.nm), x2, some (.int i), some (.ref h.length), none, none] (h ++ [eD (useF (ts.drop i) [t.nm])])) := by
    refine x_for (xs := (ts.map Tk.d).drop i) (h1 := h ++ [eD [t.nm]]) ?_ lp
    simp only [E_var, E_cst, E_glo, E_bin, E_cmp, chF_t, chF_f, E_chain, E_neg, E_and, E_or, E_not, E_ite, E_tup, E_lst, E_mlst, E_mdct, E_call, E_meth, E_prop, E_has, E_fld, E_bi, E_isi, E_idx, E_sl, E_slT, E_slH, E_stat, E_statK, E_dz, E_rev, E_callG, E_methK, E_make, E_makeK, E_dsp, E_inR, E_join, E_upd, E_app, Es_nil, Es_cons, I_seq, I_rng1, I_rng2, I_down, I_enum, I_zip, chO_t, chO_f, X_asg, X_asgF, X_asgI, X_augF, X_par, X_asgT, X_aug, X_expr, X_ret, X_retN, X_ite, X_pass, X_brk, X_cont, thnO_nx, thnO_rt, thnO_bk, thnO_ct, Xs_nil, Xs_cons, endO_nx, endO_rt, bi_lenT, bi_lenL, bi_tupL, bi_tupT, bi_lstT, bi_lstL, bi_int, bi_max, bi_min, bi_allB, bi_anyB, sl_tT, is_int, is_str, is_tup, is_bl, is_lst, look, put, setAll, wipeE, seqOf, boolOf, fget, fput, List.map_cons, List.map_nil, List.length_cons, List.length_nil, List.getElem?_cons_zero, List.getElem?_cons_succ, List.set_cons_zero, List.set_cons_succ, Option.getD_some, Option.bind_some, Option.map_some, List.cons_append, List.nil_append, List.replicate_zero, List.replicate_succ, ↓reduceIte, decide_true, decide_false, Nat.reduceEqDiff, Nat.reduceAdd, Nat.reduceSub, Nat.reduceLT, reduceCtorEq, Bool.not_true, Bool.not_false, Bool.or_false, Bool.or_true, Bool.false_or, Bool.true_or, o_add, o_sub, o_lt, o_le, o_gt, o_ge, o_eq, o_ne, o_isn, o_notn, back_same, nc0, nc1, nc2, nc3, nc4, nc5, nc6, nc7, nc8, nc9, nc10, nc11, nc12, nc20, beq_self_eq_true, Int.reduceEq, Int.reduceBEq, Int.reduceLT, Int.reduceLE, Int.reduceAdd, Int.reduceSub, Int.reduceNeg, ins_g (gob_app (x := eD [t.nm]) hl)]
  have lc := lc_names (n := n + 1) (h := h ++ [eD (useF (ts.drop i) [t.nm])]) (j := 5) (m := 4) (δ := [some (.ref l), some (.str t.nm), x2, some (.int i), some (.ref h.length), none, none]) B (gob_app hl) few (app_at _ _) rfl (fun _ => rfl) (fun _ => rfl) rfl
  have bc := back_cut (t := [eD (useF (ts.drop i) [t.nm])]) c (fr_names (q := (names ts).filter fun f => decide (f ∈ useF (ts.drop i) [t.nm])))
  have dp : dspPut [(D.str t.nm, .bl true)] [] [] = ([.str t.nm], [.bl true]) := rfl
  have pl := r_place (n := n) B hl g.nd.1 e
  have st0 : exs P (run P (n + 2)) b30 [some (.ref l), some (.str t.nm), none, none, none, none, none] h = some (.rt (.tup (((names ts).filter fun f => decide (f ∈ useF (ts.drop i) [t.nm])).map D.str)) (h ++ [eD (useF (ts.drop i) [t.nm])])) := by
    have s1 : ex P (run P (n + 2)) (.asgT [(.nm 3), (.nm 4)] (.cons (.meth 19 (.var 0) (.cons (.var 1) .nil)) (.cons (.dsp (.cons (.var 1) (.cons (.cst (.bl true)) .nil))) .nil))) [some (.ref l), some (.str t.nm), none, none, none, none, none] h = some (.nx [some (.ref l), some (.str t.nm), none, some (.int i), some (.ref h.length), none, none] (h ++ [eD [t.nm]])) := by
      simp only [E_var, E_cst, E_glo, E_bin, E_cmp, chF_t, chF_f, E_chain, E_neg, E_and, E_or, E_not, E_ite, E_tup, E_lst, E_mlst, E_mdct, E_call, E_meth, E_prop, E_has, E_fld, E_bi, E_isi, E_idx, E_sl, E_slT, E_slH, E_stat, E_statK, E_dz, E_rev, E_callG, E_methK, E_make, E_makeK, E_dsp, E_inR, E_join, E_upd, E_app, Es_nil, Es_cons, I_seq, I_rng1, I_rng2, I_down, I_enum, I_zip, chO_t, chO_f, X_asg, X_asgF, X_asgI, X_augF, X_par, X_asgT, X_aug, X_expr, X_ret, X_retN, X_ite, X_pass, X_brk, X_cont, thnO_nx, thnO_rt, thnO_bk, thnO_ct, Xs_nil, Xs_cons, endO_nx, endO_rt, bi_lenT, bi_lenL, bi_tupL, bi_tupT, bi_lstT, bi_lstL, bi_int, bi_max, bi_min, bi_allB, bi_anyB, sl_tT, is_int, is_str, is_tup, is_bl, is_lst, look, put, setAll, wipeE, seqOf, boolOf, fget, fput, List.map_cons, List.map_nil, List.length_cons, List.length_nil, List.getElem?_cons_zero, List.getElem?_cons_succ, List.set_cons_zero, List.set_cons_succ, Option.getD_some, Option.bind_some, Option.map_some, List.cons_append, List.nil_append, List.replicate_zero, List.replicate_succ, ↓reduceIte, decide_true, decide_false, Nat.reduceEqDiff, Nat.reduceAdd, Nat.reduceSub, Nat.reduceLT, reduceCtorEq, Bool.not_true, Bool.not_false, Bool.or_false, Bool.or_true, Bool.false_or, Bool.true_or, o_add, o_sub, o_lt, o_le, o_gt, o_ge, o_eq, o_ne, o_isn, o_notn, back_same, nc0, nc1, nc2, nc3, nc4, nc5, nc6, nc7, nc8, nc9, nc10, nc11, nc12, nc20, beq_self_eq_true, Int.reduceEq, Int.reduceBEq, Int.reduceLT, Int.reduceLE, Int.reduceAdd, Int.reduceSub, Int.reduceNeg, ins_g hl, B.d 19 _ rfl, pl, pairUp, isKey, List.all_cons, List.all_nil, Bool.and_self, dp, putsX]
      rfl
    simp only [E_var, E_cst, E_glo, E_bin, E_cmp, chF_t, chF_f, E_chain, E_neg, E_and, E_or, E_not, E_ite, E_tup, E_lst, E_mlst, E_mdct, E_call, E_meth, E_prop, E_has, E_fld, E_bi, E_isi, E_idx, E_sl, E_slT, E_slH, E_stat, E_statK, E_dz, E_rev, E_callG, E_methK, E_make, E_makeK, E_dsp, E_inR, E_join, E_upd, E_app, Es_nil, Es_cons, I_seq, I_rng1, I_rng2, I_down, I_enum, I_zip, chO_t, chO_f, X_asg, X_asgF, X_asgI, X_augF, X_par, X_asgT, X_aug, X_expr, X_ret, X_retN, X_ite, X_pass, X_brk, X_cont, thnO_nx, thnO_rt, thnO_bk, thnO_ct, Xs_nil, Xs_cons, endO_nx, endO_rt, bi_lenT, bi_lenL, bi_tupL, bi_tupT, bi_lstT, bi_lstL, bi_int, bi_max, bi_min, bi_allB, bi_anyB, sl_tT, is_int, is_str, is_tup, is_bl, is_lst, look, put, setAll, wipeE, seqOf, boolOf, fget, fput, List.map_cons, List.map_nil, List.length_cons, List.length_nil, List.getElem?_cons_zero, List.getElem?_cons_succ, List.set_cons_zero, List.set_cons_succ, Option.getD_some, Option.bind_some, Option.map_some, List.cons_append, List.nil_append, List.replicate_zero, List.replicate_succ, ↓reduceIte, decide_true, decide_false, Nat.reduceEqDiff, Nat.reduceAdd, Nat.reduceSub, Nat.reduceLT, reduceCtorEq, Bool.not_true, Bool.not_false, Bool.or_false, Bool.or_true, Bool.false_or, Bool.true_or, o_add, o_sub, o_lt, o_le, o_gt, o_ge, o_eq, o_ne, o_isn, o_notn, back_same, nc0, nc1, nc2, nc3, nc4, nc5, nc6, nc7, nc8, nc9, nc10, nc11, nc12, nc20, beq_self_eq_true, Int.reduceEq, Int.reduceBEq, Int.reduceLT, Int.reduceLE, Int.reduceAdd, Int.reduceSub, Int.reduceNeg, b30, s1, fl, lc]
  refine (run_go (B.d 30 _ rfl) rfl).trans ?_
  show (exs P (run P (n + 2)) b30 [some (.ref l), some (.str t.nm), none, none, none, none, none] h).bind (endO .clo h.length) = _
  rw [st0]
  exact bc
end
end GB

/-! draws -/
namespace GB
open VI
def bTake : SL :=
  (.cons (.ite (.cmp .gt (.idx (.var 0) (.cst (.int 0))) (.cst (.int 0)))
  (.cons (.asg (.nm 4) (.bin .mod (.bi .int (.cons (.idx (.var 0) (.cst (.int 0))) .nil)) (.var 1)))
   (.cons (.asgI (.var 0) (.cst (.int 0)) (.bin .fdiv (.idx (.var 0) (.cst (.int 0))) (.var 1)))
   (.cons (.ret (.var 4))
   .nil)))
  .nil)
 (.cons (.asgI (.var 0) (.cst (.int 2)) (.bin .add (.idx (.var 0) (.cst (.int 2))) (.cst (.int 1))))
 (.cons (.asg (.nm 2) (.idx (.lst (.cons (.cst (.int 2147483647)) (.cons (.cst (.int 2147483629)) (.cons (.cst (.int 2147483587)) (.cons (.cst (.int 2147483579)) (.cons (.cst (.int 2147483563)) .nil)))))) (.bin .mod (.bi .int (.cons (.idx (.var 0) (.cst (.int 2))) .nil)) (.cst (.int 5)))))
 (.cons (.asg (.nm 3) (.bin .mod (.bi .int (.cons (.bin .pow (.bin .add (.bin .add (.idx (.var 0) (.cst (.int 1))) (.bin .mul (.bin .mul (.cst (.int 99989)) (.idx (.var 0) (.cst (.int 2)))) (.idx (.var 0) (.cst (.int 2))))) (.cst (.int 41))) (.cst (.int 3))) .nil)) (.var 2)))
 (.cons (.ret (.bin .mod (.bi .int (.cons (.bin .fdiv (.bin .mul (.var 3) (.bin .add (.bin .mod (.bi .int (.cons (.var 3) .nil)) (.cst (.int 10007))) (.bin .mul (.cst (.int 89)) (.idx (.var 0) (.cst (.int 2)))))) (.cst (.int 97))) .nil)) (.var 1)))
 .nil)))))
def bPot : SL :=
  (.cons (.asg (.nm 2) (.ite (.cmp .lt (.var 1) (.bi .len (.cons (.var 0) .nil))) (.bi .int (.cons (.idx (.var 0) (.var 1)) .nil)) (.bin .add (.bin .mul (.cst (.int 37)) (.var 1)) (.cst (.int 13)))))
 (.cons (.asg (.nm 3) (.bin .mul (.bin .mod (.bi .int (.cons (.bi .abs (.cons (.var 2) .nil)) .nil)) (.bin .pow (.bin .pow (.cst (.int 10)) (.cst (.int 60))) (.cst (.int 5)))) (.bi .int (.cons (.cmp .ge (.bi .abs (.cons (.var 2) .nil)) (.bin .pow (.cst (.int 10)) (.cst (.int 18)))) .nil))))
 (.cons (.ret (.mlst (.cons (.var 3) (.cons (.bin .mod (.bi .int (.cons (.bin .add (.bin .add (.bin .mul (.bin .mod (.bi .int (.cons (.var 2) .nil)) (.cst (.int 2305843009213693951))) (.cst (.int 67943))) (.bin .mul (.bin .mul (.cst (.int 5653)) (.var 1)) (.var 1))) (.cst (.int 59))) .nil)) (.cst (.int 2305843009213693921))) (.cons (.cst (.int 0)) .nil)))))
 .nil)))
structure Pot (h : Hh) (l : Nat) (k : Nat) : Prop where
  ex : ∃ a b c : Int, h[l]? = some (.lst [.int a, .int b, .int c]) ∧ 0 ≤ a ∧ 0 ≤ b ∧ b < 2305843009213693921 ∧ 0 ≤ c ∧ c ≤ k
section
variable {P : Pg} {n l f : Nat} {h : Hh} {a b c : Int}
theorem ic0 (hl : h[l]? = some (.lst [.int a, .int b, .int c])) : idxF h (.ref l) (.int 0) = some (.int a) := by
  show idxO h (.ref l) (.int 0) = _
  simp only [idxO, lstOf, hl]; rfl
theorem ic1 (hl : h[l]? = some (.lst [.int a, .int b, .int c])) : idxF h (.ref l) (.int 1) = some (.int b) := by
  show idxO h (.ref l) (.int 1) = _
  simp only [idxO, lstOf, hl]; rfl
theorem ic2 (hl : h[l]? = some (.lst [.int a, .int b, .int c])) : idxF h (.ref l) (.int 2) = some (.int c) := by
  show idxO h (.ref l) (.int 2) = _
  simp only [idxO, lstOf, hl]; rfl
theorem sc0 (hl : h[l]? = some (.lst [.int a, .int b, .int c])) {x : Int} : setF h (.ref l) (.int 0) (.int x) = some (h.set l (.lst [.int x, .int b, .int c])) := set_lst hl ⟨by decide, by simp⟩
theorem sc2 (hl : h[l]? = some (.lst [.int a, .int b, .int c])) {x : Int} : setF h (.ref l) (.int 2) (.int x) = some (h.set l (.lst [.int a, .int b, .int x])) := set_lst hl ⟨by decide, by simp⟩
theorem prime_at (i : Int) : ∃ p : Int, 0 < p ∧ p < 2147483648 ∧ ∀ g : Hh, idxF g (.lst [.int 2147483647, .int 2147483629, .int 2147483587, .int 2147483579, .int 2147483563]) (.int (i % 5)) = some (.int p) := by
  have h0 := Int.emod_nonneg i (b := 5) (by decide)
  have h1 := Int.emod_lt_of_pos i (b := 5) (by decide)
  have : i % 5 = 0 ∨ i % 5 = 1 ∨ i % 5 = 2 ∨ i % 5 = 3 ∨ i % 5 = 4 := by omega
  rcases this with e | e | e | e | e <;> rw [e]
  · exact ⟨2147483647, by decide, by decide, fun _ => rfl⟩
  · exact ⟨2147483629, by decide, by decide, fun _ => rfl⟩
  · exact ⟨2147483587, by decide, by decide, fun _ => rfl⟩
  · exact ⟨2147483579, by decide, by decide, fun _ => rfl⟩
  · exact ⟨2147483563, by decide, by decide, fun _ => rfl⟩
/-- _law_take -/
theorem d_take (hf : P.defs[f]? = some ⟨.glob, none, 5, 2, .clo, bTake⟩) {k : Nat} (p : Pot h l k) (hk : k < 1000000) {u : Int} (u0 : 1 ≤ u) (u1 : u ≤ 1000000) :
    ∃ (r : Int) (o : Ob), run P (n + 1) f [.ref l, .int u] h = some (.int r, h.set l o) ∧ 0 ≤ r ∧ r < u ∧ Pot (h.set l o) l (k + 1) ∧ (∀ m, Ob.low m o = true) := by
  obtain ⟨a, b, c, hl, a0, b0, b1, c0, c1⟩ := p.ex
  have lt := (List.getElem?_eq_some_iff.mp hl).1
  rw [run_go hf rfl]
  by_cases ha : 0 < a
  · refine ⟨a % u, .lst [.int (a / u), .int b, .int c], ?_, Int.emod_nonneg _ (by omega), Int.emod_lt_of_pos _ (by omega), ⟨a / u, b, c, List.getElem?_set_self lt, Int.ediv_nonneg a0 (by omega), b0, b1, c0, by omega⟩, fun m => rfl⟩
    have ha' : ¬ a ≤ 0 := by omega
    simp only [E_var, E_cst, E_glo, E_bin, E_cmp, chF_t, chF_f, E_chain, E_neg, E_and, E_or, E_not, E_ite, E_tup, E_lst, E_mlst, E_mdct, E_call, E_meth, E_prop, E_has, E_fld, E_bi, E_isi, E_idx, E_sl, E_slT, E_slH, E_stat, E_statK, E_dz, E_rev, E_callG, E_methK, E_make, E_makeK, E_dsp, E_inR, E_join, E_upd, E_app, Es_nil, Es_cons, I_seq, I_rng1, I_rng2, I_down, I_enum, I_zip, chO_t, chO_f, X_asg, X_asgF, X_asgI, X_augF, X_par, X_asgT, X_aug, X_expr, X_ret, X_retN, X_ite, X_pass, X_brk, X_cont, thnO_nx, thnO_rt, thnO_bk, thnO_ct, Xs_nil, Xs_cons, endO_nx, endO_rt, bi_lenT, bi_lenL, bi_tupL, bi_tupT, bi_lstT, bi_lstL, bi_int, bi_max, bi_min, bi_allB, bi_anyB, sl_tT, is_int, is_str, is_tup, is_bl, is_lst, look, put, setAll, wipeE, seqOf, boolOf, fget, fput, List.map_cons, List.map_nil, List.length_cons, List.length_nil, List.getElem?_cons_zero, List.getElem?_cons_succ, List.set_cons_zero, List.set_cons_succ, Option.getD_some, Option.bind_some, Option.map_some, List.cons_append, List.nil_append, List.replicate_zero, List.replicate_succ, ↓reduceIte, decide_true, decide_false, Nat.reduceEqDiff, Nat.reduceAdd, Nat.reduceSub, Nat.reduceLT, reduceCtorEq, Bool.not_true, Bool.not_false, Bool.or_false, Bool.or_true, Bool.false_or, Bool.true_or, o_add, o_sub, o_lt, o_le, o_gt, o_ge, o_eq, o_ne, o_isn, o_notn, back_same, nc0, nc1, nc2, nc3, nc4, nc5, nc6, nc7, nc8, nc9, nc10, nc11, nc12, nc20, beq_self_eq_true, Int.reduceEq, Int.reduceBEq, Int.reduceLT, Int.reduceLE, Int.reduceAdd, Int.reduceSub, Int.reduceNeg, bTake, ic0 hl, ha, o_mod (show 0 < u by omega), o_fdiv (show 0 < u by omega) (show u < 1073741824 by omega), sc0 hl]
    exact back_same (by simp)
  · have hl2 : (h.set l (.lst [.int a, .int b, .int (c + 1)]))[l]? = some (.lst [.int a, .int b, .int (c + 1)]) := List.getElem?_set_self lt
    obtain ⟨p, p0, p1, hp⟩ := prime_at (c + 1)
    obtain ⟨x, hx⟩ : ∃ x, x = (b + 99989 * (c + 1) * (c + 1) + 41) ^ (3 : Int).toNat % p := ⟨_, rfl⟩
    have x0 : 0 ≤ x := by rw [hx]; exact Int.emod_nonneg _ (by omega)
    have x1 : x < 2147483648 := by rw [hx]; have := Int.emod_lt_of_pos ((b + 99989 * (c + 1) * (c + 1) + 41) ^ (3 : Int).toNat) p0; omega
    have cc : (c + 1) * (c + 1) ≤ 1000001 * 1000001 := Int.mul_le_mul (by omega) (by omega) (by omega) (by decide)
    have cc0 : 0 ≤ (c + 1) * (c + 1) := Int.mul_nonneg (by omega) (by omega)
    have ee : 99989 * (c + 1) * (c + 1) = 99989 * ((c + 1) * (c + 1)) := Int.mul_assoc _ _ _
    have bd : (b + 99989 * (c + 1) * (c + 1) + 41).natAbs < 2 ^ 250 := by
      rw [ee]
      have : (b + 99989 * ((c + 1) * (c + 1)) + 41).natAbs < 2 ^ 64 := by omega
      exact Nat.lt_of_lt_of_le this (Nat.pow_le_pow_right (by decide) (by decide))
    have m1 : ∀ g : Hh, op2 g .mul (.int 99989) (.int (c + 1)) = some (.int (99989 * (c + 1))) := fun g => o_mulL (by decide)
    have m2 : ∀ g : Hh, op2 g .mul (.int (99989 * (c + 1))) (.int (c + 1)) = some (.int (99989 * (c + 1) * (c + 1))) := fun g => o_mulR (small_of (by omega) (by omega))
    have pw : ∀ g : Hh, op2 g .pow (.int (b + 99989 * (c + 1) * (c + 1) + 41)) (.int 3) = some (.int ((b + 99989 * (c + 1) * (c + 1) + 41) ^ (3 : Int).toNat)) := fun g => o_pow (by decide) (by decide) bd
    have m3 : ∀ g : Hh, op2 g .mul (.int 89) (.int (c + 1)) = some (.int (89 * (c + 1))) := fun g => o_mulL (by decide)
    have m4 : ∀ g : Hh, op2 g .mul (.int x) (.int (x % 10007 + 89 * (c + 1))) = some (.int (x * (x % 10007 + 89 * (c + 1)))) := fun g => o_mulL (small_of (by omega) (by omega))
    have md : ∀ (g : Hh) (y : Int), op2 g .mod (.int y) (.int p) = some (.int (y % p)) := fun g y => o_mod p0
    have md2 : ∀ (g : Hh) (y : Int), op2 g .mod (.int y) (.int u) = some (.int (y % u)) := fun g y => o_mod (by omega)
    have md3 : ∀ (g : Hh) (y : Int), op2 g .mod (.int y) (.int 5) = some (.int (y % 5)) := fun g y => o_mod (by decide)
    have md4 : ∀ (g : Hh) (y : Int), op2 g .mod (.int y) (.int 10007) = some (.int (y % 10007)) := fun g y => o_mod (by decide)
    have fd : ∀ (g : Hh) (y : Int), op2 g .fdiv (.int y) (.int 97) = some (.int (y / 97)) := fun g y => o_fdiv (by decide) (by decide)
    refine ⟨x * (x % 10007 + 89 * (c + 1)) / 97 % u, .lst [.int a, .int b, .int (c + 1)], ?_, Int.emod_nonneg _ (by omega), Int.emod_lt_of_pos _ (by omega), ⟨a, b, c + 1, hl2, a0, b0, b1, by omega, by omega⟩, fun m => rfl⟩
    simp only [E_var, E_cst, E_glo, E_bin, E_cmp, chF_t, chF_f, E_chain, E_neg, E_and, E_or, E_not, E_ite, E_tup, E_lst, E_mlst, E_mdct, E_call, E_meth, E_prop, E_has, E_fld, E_bi, E_isi, E_idx, E_sl, E_slT, E_slH, E_stat, E_statK, E_dz, E_rev, E_callG, E_methK, E_make, E_makeK, E_dsp, E_inR, E_join, E_upd, E_app, Es_nil, Es_cons, I_seq, I_rng1, I_rng2, I_down, I_enum, I_zip, chO_t, chO_f, X_asg, X_asgF, X_asgI, X_augF, X_par, X_asgT, X_aug, X_expr, X_ret, X_retN, X_ite, X_pass, X_brk, X_cont, thnO_nx, thnO_rt, thnO_bk, thnO_ct, Xs_nil, Xs_cons, endO_nx, endO_rt, bi_lenT, bi_lenL, bi_tupL, bi_tupT, bi_lstT, bi_lstL, bi_int, bi_max, bi_min, bi_allB, bi_anyB, sl_tT, is_int, is_str, is_tup, is_bl, is_lst, look, put, setAll, wipeE, seqOf, boolOf, fget, fput, List.map_cons, List.map_nil, List.length_cons, List.length_nil, List.getElem?_cons_zero, List.getElem?_cons_succ, List.set_cons_zero, List.set_cons_succ, Option.getD_some, Option.bind_some, Option.map_some, List.cons_append, List.nil_append, List.replicate_zero, List.replicate_succ, ↓reduceIte, decide_true, decide_false, Nat.reduceEqDiff, Nat.reduceAdd, Nat.reduceSub, Nat.reduceLT, reduceCtorEq, Bool.not_true, Bool.not_false, Bool.or_false, Bool.or_true, Bool.false_or, Bool.true_or, o_add, o_sub, o_lt, o_le, o_gt, o_ge, o_eq, o_ne, o_isn, o_notn, back_same, nc0, nc1, nc2, nc3, nc4, nc5, nc6, nc7, nc8, nc9, nc10, nc11, nc12, nc20, beq_self_eq_true, Int.reduceEq, Int.reduceBEq, Int.reduceLT, Int.reduceLE, Int.reduceAdd, Int.reduceSub, Int.reduceNeg, bTake, ic0 hl, ic2 hl, ha, sc2 hl, ic1 hl2, ic2 hl2, hp, m1, m2, pw, md, md3, ← hx, md4, m3, m4, fd, md2]
    exact back_same (by simp)
theorem bi_lenS {xs : List D} : biF h .len [.scr xs] = some (.int xs.length) := rfl
theorem bi_abs {i : Int} : biF h .abs [.int i] = some (.int (if i < 0 then -i else i)) := rfl
theorem bi_intB {q : Bool} : biF h .int [.bl q] = some (.int (if q then 1 else 0)) := rfl
def cellOf (ns : List Int) (k : Nat) : Int := if k < ns.length then ns.getD k 0 else 37 * k + 13
theorem p_cell {ns : List Int} {k : Nat} : ev P (run P n) (.ite (.cmp .lt (.var 1) (.bi .len (.cons (.var 0) .nil))) (.bi .int (.cons (.idx (.var 0) (.var 1)) .nil)) (.bin .add (.bin .mul (.cst (.int 37)) (.var 1)) (.cst (.int 13)))) [some (.scr (ns.map D.int)), some (.int k), none, none] h = some (.int (cellOf ns k), h) := by
  by_cases q : k < ns.length
  · have q' : (k : Int) < ns.length := by omega
    have ix : idxF h (.scr (ns.map D.int)) (.int k) = some (.int (cellOf ns k)) := by
      show atD (ns.map D.int) (k : Int) = _
      unfold atD cellOf
      rw [if_pos (by omega), Int.toNat_natCast, List.getElem?_map, List.getElem?_eq_getElem q, if_pos q]
      simp [List.getD, q]
    simp only [E_var, E_cst, E_glo, E_bin, E_cmp, chF_t, chF_f, E_chain, E_neg, E_and, E_or, E_not, E_ite, E_tup, E_lst, E_mlst, E_mdct, E_call, E_meth, E_prop, E_has, E_fld, E_bi, E_isi, E_idx, E_sl, E_slT, E_slH, E_stat, E_statK, E_dz, E_rev, E_callG, E_methK, E_make, E_makeK, E_dsp, E_inR, E_join, E_upd, E_app, Es_nil, Es_cons, I_seq, I_rng1, I_rng2, I_down, I_enum, I_zip, chO_t, chO_f, X_asg, X_asgF, X_asgI, X_augF, X_par, X_asgT, X_aug, X_expr, X_ret, X_retN, X_ite, X_pass, X_brk, X_cont, thnO_nx, thnO_rt, thnO_bk, thnO_ct, Xs_nil, Xs_cons, endO_nx, endO_rt, bi_lenT, bi_lenL, bi_tupL, bi_tupT, bi_lstT, bi_lstL, bi_int, bi_max, bi_min, bi_allB, bi_anyB, sl_tT, is_int, is_str, is_tup, is_bl, is_lst, look, put, setAll, wipeE, seqOf, boolOf, fget, fput, List.map_cons, List.map_nil, List.length_cons, List.length_nil, List.getElem?_cons_zero, List.getElem?_cons_succ, List.set_cons_zero, List.set_cons_succ, Option.getD_some, Option.bind_some, Option.map_some, List.cons_append, List.nil_append, List.replicate_zero, List.replicate_succ, ↓reduceIte, decide_true, decide_false, Nat.reduceEqDiff, Nat.reduceAdd, Nat.reduceSub, Nat.reduceLT, reduceCtorEq, Bool.not_true, Bool.not_false, Bool.or_false, Bool.or_true, Bool.false_or, Bool.true_or, o_add, o_sub, o_lt, o_le, o_gt, o_ge, o_eq, o_ne, o_isn, o_notn, back_same, nc0, nc1, nc2, nc3, nc4, nc5, nc6, nc7, nc8, nc9, nc10, nc11, nc12, nc20, beq_self_eq_true, Int.reduceEq, Int.reduceBEq, Int.reduceLT, Int.reduceLE, Int.reduceAdd, Int.reduceSub, Int.reduceNeg, bi_lenS, List.length_map, q', ix]
  · have q' : ¬ (k : Int) < ns.length := by omega
    have m1 : op2 h .mul (.int 37) (.int k) = some (.int (37 * k)) := o_mulL (by decide)
    have ex : cellOf ns k = 37 * k + 13 := if_neg q
    simp only [E_var, E_cst, E_glo, E_bin, E_cmp, chF_t, chF_f, E_chain, E_neg, E_and, E_or, E_not, E_ite, E_tup, E_lst, E_mlst, E_mdct, E_call, E_meth, E_prop, E_has, E_fld, E_bi, E_isi, E_idx, E_sl, E_slT, E_slH, E_stat, E_statK, E_dz, E_rev, E_callG, E_methK, E_make, E_makeK, E_dsp, E_inR, E_join, E_upd, E_app, Es_nil, Es_cons, I_seq, I_rng1, I_rng2, I_down, I_enum, I_zip, chO_t, chO_f, X_asg, X_asgF, X_asgI, X_augF, X_par, X_asgT, X_aug, X_expr, X_ret, X_retN, X_ite, X_pass, X_brk, X_cont, thnO_nx, thnO_rt, thnO_bk, thnO_ct, Xs_nil, Xs_cons, endO_nx, endO_rt, bi_lenT, bi_lenL, bi_tupL, bi_tupT, bi_lstT, bi_lstL, bi_int, bi_max, bi_min, bi_allB, bi_anyB, sl_tT, is_int, is_str, is_tup, is_bl, is_lst, look, put, setAll, wipeE, seqOf, boolOf, fget, fput, List.map_cons, List.map_nil, List.length_cons, List.length_nil, List.getElem?_cons_zero, List.getElem?_cons_succ, List.set_cons_zero, List.set_cons_succ, Option.getD_some, Option.bind_some, Option.map_some, List.cons_append, List.nil_append, List.replicate_zero, List.replicate_succ, ↓reduceIte, decide_true, decide_false, Nat.reduceEqDiff, Nat.reduceAdd, Nat.reduceSub, Nat.reduceLT, reduceCtorEq, Bool.not_true, Bool.not_false, Bool.or_false, Bool.or_true, Bool.false_or, Bool.true_or, o_add, o_sub, o_lt, o_le, o_gt, o_ge, o_eq, o_ne, o_isn, o_notn, back_same, nc0, nc1, nc2, nc3, nc4, nc5, nc6, nc7, nc8, nc9, nc10, nc11, nc12, nc20, beq_self_eq_true, Int.reduceEq, Int.reduceBEq, Int.reduceLT, Int.reduceLE, Int.reduceAdd, Int.reduceSub, Int.reduceNeg, bi_lenS, List.length_map, q', m1, ex]
theorem p_own {x : Int} {y0 y1 : Option D} : ∃ r : Int, 0 ≤ r ∧ ev P (run P n) (.bin .mul (.bin .mod (.bi .int (.cons (.bi .abs (.cons (.var 2) .nil)) .nil)) (.bin .pow (.bin .pow (.cst (.int 10)) (.cst (.int 60))) (.cst (.int 5)))) (.bi .int (.cons (.cmp .ge (.bi .abs (.cons (.var 2) .nil)) (.bin .pow (.cst (.int 10)) (.cst (.int 18)))) .nil))) [y0, y1, some (.int x), none] h = some (.int r, h) := by
  obtain ⟨y, ey⟩ : ∃ y : Int, y = if x < 0 then -x else x := ⟨_, rfl⟩
  have y0 : 0 ≤ y := by rw [ey]; split <;> omega
  obtain ⟨A, eA⟩ : ∃ A : Int, A = 10 ^ (60 : Int).toNat := ⟨_, rfl⟩
  have A1 : A.natAbs < 2 ^ 250 := by rw [eA]; decide
  have A0 : 0 < A := by rw [eA]; decide
  have p1 : op2 h .pow (.int 10) (.int 60) = some (.int A) := by rw [eA]; exact o_pow (by decide) (by decide) (by decide)
  obtain ⟨A5, eA5⟩ : ∃ A5 : Int, A5 = A ^ (5 : Int).toNat := ⟨_, rfl⟩
  have p2 : op2 h .pow (.int A) (.int 5) = some (.int A5) := by rw [eA5]; exact o_pow (by decide) (by decide) A1
  have A50 : 0 < A5 := by rw [eA5]; exact Int.pow_pos A0
  obtain ⟨T, eT⟩ : ∃ T : Int, T = 10 ^ (18 : Int).toNat := ⟨_, rfl⟩
  have p3 : op2 h .pow (.int 10) (.int 18) = some (.int T) := by rw [eT]; exact o_pow (by decide) (by decide) (by decide)
  have md1 : op2 h .mod (.int y) (.int A5) = some (.int (y % A5)) := o_mod A50
  obtain ⟨q, eq⟩ : ∃ q : Int, q = if decide (T ≤ y) = true then 1 else 0 := ⟨_, rfl⟩
  have q01 : q = 0 ∨ q = 1 := by rw [eq]; split <;> simp
  have mu : op2 h .mul (.int (y % A5)) (.int q) = some (.int (y % A5 * q)) := o_mulR (by rcases q01 with e | e <;> rw [e] <;> decide)
  refine ⟨y % A5 * q, ?_, ?_⟩
  · have := Int.emod_nonneg y (b := A5) (by omega)
    rcases q01 with e | e <;> rw [e] <;> omega
  · simp only [E_var, E_cst, E_glo, E_bin, E_cmp, chF_t, chF_f, E_chain, E_neg, E_and, E_or, E_not, E_ite, E_tup, E_lst, E_mlst, E_mdct, E_call, E_meth, E_prop, E_has, E_fld, E_bi, E_isi, E_idx, E_sl, E_slT, E_slH, E_stat, E_statK, E_dz, E_rev, E_callG, E_methK, E_make, E_makeK, E_dsp, E_inR, E_join, E_upd, E_app, Es_nil, Es_cons, I_seq, I_rng1, I_rng2, I_down, I_enum, I_zip, chO_t, chO_f, X_asg, X_asgF, X_asgI, X_augF, X_par, X_asgT, X_aug, X_expr, X_ret, X_retN, X_ite, X_pass, X_brk, X_cont, thnO_nx, thnO_rt, thnO_bk, thnO_ct, Xs_nil, Xs_cons, endO_nx, endO_rt, bi_lenT, bi_lenL, bi_tupL, bi_tupT, bi_lstT, bi_lstL, bi_int, bi_max, bi_min, bi_allB, bi_anyB, sl_tT, is_int, is_str, is_tup, is_bl, is_lst, look, put, setAll, wipeE, seqOf, boolOf, fget, fput, List.map_cons, List.map_nil, List.length_cons, List.length_nil, List.getElem?_cons_zero, List.getElem?_cons_succ, List.set_cons_zero, List.set_cons_succ, Option.getD_some, Option.bind_some, Option.map_some, List.cons_append, List.nil_append, List.replicate_zero, List.replicate_succ, ↓reduceIte, decide_true, decide_false, Nat.reduceEqDiff, Nat.reduceAdd, Nat.reduceSub, Nat.reduceLT, reduceCtorEq, Bool.not_true, Bool.not_false, Bool.or_false, Bool.or_true, Bool.false_or, Bool.true_or, o_add, o_sub, o_lt, o_le, o_gt, o_ge, o_eq, o_ne, o_isn, o_notn, back_same, nc0, nc1, nc2, nc3, nc4, nc5, nc6, nc7, nc8, nc9, nc10, nc11, nc12, nc20, beq_self_eq_true, Int.reduceEq, Int.reduceBEq, Int.reduceLT, Int.reduceLE, Int.reduceAdd, Int.reduceSub, Int.reduceNeg, bi_abs, ← ey, p1, p2, p3, md1, bi_intB]
    rw [← eq]
    simp only [E_var, E_cst, E_glo, E_bin, E_cmp, chF_t, chF_f, E_chain, E_neg, E_and, E_or, E_not, E_ite, E_tup, E_lst, E_mlst, E_mdct, E_call, E_meth, E_prop, E_has, E_fld, E_bi, E_isi, E_idx, E_sl, E_slT, E_slH, E_stat, E_statK, E_dz, E_rev, E_callG, E_methK, E_make, E_makeK, E_dsp, E_inR, E_join, E_upd, E_app, Es_nil, Es_cons, I_seq, I_rng1, I_rng2, I_down, I_enum, I_zip, chO_t, chO_f, X_asg, X_asgF, X_asgI, X_augF, X_par, X_asgT, X_aug, X_expr, X_ret, X_retN, X_ite, X_pass, X_brk, X_cont, thnO_nx, thnO_rt, thnO_bk, thnO_ct, Xs_nil, Xs_cons, endO_nx, endO_rt, bi_lenT, bi_lenL, bi_tupL, bi_tupT, bi_lstT, bi_lstL, bi_int, bi_max, bi_min, bi_allB, bi_anyB, sl_tT, is_int, is_str, is_tup, is_bl, is_lst, look, put, setAll, wipeE, seqOf, boolOf, fget, fput, List.map_cons, List.map_nil, List.length_cons, List.length_nil, List.getElem?_cons_zero, List.getElem?_cons_succ, List.set_cons_zero, List.set_cons_succ, Option.getD_some, Option.bind_some, Option.map_some, List.cons_append, List.nil_append, List.replicate_zero, List.replicate_succ, ↓reduceIte, decide_true, decide_false, Nat.reduceEqDiff, Nat.reduceAdd, Nat.reduceSub, Nat.reduceLT, reduceCtorEq, Bool.not_true, Bool.not_false, Bool.or_false, Bool.or_true, Bool.false_or, Bool.true_or, o_add, o_sub, o_lt, o_le, o_gt, o_ge, o_eq, o_ne, o_isn, o_notn, back_same, nc0, nc1, nc2, nc3, nc4, nc5, nc6, nc7, nc8, nc9, nc10, nc11, nc12, nc20, beq_self_eq_true, Int.reduceEq, Int.reduceBEq, Int.reduceLT, Int.reduceLE, Int.reduceAdd, Int.reduceSub, Int.reduceNeg, mu]
theorem p_seed {x k : Int} (hk : 0 ≤ k ∧ k ≤ 3) {y0 y3 : Option D} : ∃ r : Int, 0 ≤ r ∧ r < 2305843009213693921 ∧ ev P (run P n) (.bin .mod (.bi .int (.cons (.bin .add (.bin .add (.bin .mul (.bin .mod (.bi .int (.cons (.var 2) .nil)) (.cst (.int 2305843009213693951))) (.cst (.int 67943))) (.bin .mul (.bin .mul (.cst (.int 5653)) (.var 1)) (.var 1))) (.cst (.int 59))) .nil)) (.cst (.int 2305843009213693921))) [y0, some (.int k), some (.int x), y3] h = some (.int r, h) := by
  have m1 : ∀ y : Int, op2 h .mod (.int y) (.int 2305843009213693951) = some (.int (y % 2305843009213693951)) := fun y => o_mod (by decide)
  have m2 : ∀ y : Int, op2 h .mul (.int y) (.int 67943) = some (.int (y * 67943)) := fun y => o_mulR (by decide)
  have m3 : op2 h .mul (.int 5653) (.int k) = some (.int (5653 * k)) := o_mulL (by decide)
  have m4 : op2 h .mul (.int (5653 * k)) (.int k) = some (.int (5653 * k * k)) := o_mulR (small_of (by omega) (by omega))
  have m5 : ∀ y : Int, op2 h .mod (.int y) (.int 2305843009213693921) = some (.int (y % 2305843009213693921)) := fun y => o_mod (by decide)
  refine ⟨(x % 2305843009213693951 * 67943 + 5653 * k * k + 59) % 2305843009213693921, Int.emod_nonneg _ (by decide), Int.emod_lt_of_pos _ (by decide), ?_⟩
  simp only [E_var, E_cst, E_glo, E_bin, E_cmp, chF_t, chF_f, E_chain, E_neg, E_and, E_or, E_not, E_ite, E_tup, E_lst, E_mlst, E_mdct, E_call, E_meth, E_prop, E_has, E_fld, E_bi, E_isi, E_idx, E_sl, E_slT, E_slH, E_stat, E_statK, E_dz, E_rev, E_callG, E_methK, E_make, E_makeK, E_dsp, E_inR, E_join, E_upd, E_app, Es_nil, Es_cons, I_seq, I_rng1, I_rng2, I_down, I_enum, I_zip, chO_t, chO_f, X_asg, X_asgF, X_asgI, X_augF, X_par, X_asgT, X_aug, X_expr, X_ret, X_retN, X_ite, X_pass, X_brk, X_cont, thnO_nx, thnO_rt, thnO_bk, thnO_ct, Xs_nil, Xs_cons, endO_nx, endO_rt, bi_lenT, bi_lenL, bi_tupL, bi_tupT, bi_lstT, bi_lstL, bi_int, bi_max, bi_min, bi_allB, bi_anyB, sl_tT, is_int, is_str, is_tup, is_bl, is_lst, look, put, setAll, wipeE, seqOf, boolOf, fget, fput, List.map_cons, List.map_nil, List.length_cons, List.length_nil, List.getElem?_cons_zero, List.getElem?_cons_succ, List.set_cons_zero, List.set_cons_succ, Option.getD_some, Option.bind_some, Option.map_some, List.cons_append, List.nil_append, List.replicate_zero, List.replicate_succ, ↓reduceIte, decide_true, decide_false, Nat.reduceEqDiff, Nat.reduceAdd, Nat.reduceSub, Nat.reduceLT, reduceCtorEq, Bool.not_true, Bool.not_false, Bool.or_false, Bool.or_true, Bool.false_or, Bool.true_or, o_add, o_sub, o_lt, o_le, o_gt, o_ge, o_eq, o_ne, o_isn, o_notn, back_same, nc0, nc1, nc2, nc3, nc4, nc5, nc6, nc7, nc8, nc9, nc10, nc11, nc12, nc20, beq_self_eq_true, Int.reduceEq, Int.reduceBEq, Int.reduceLT, Int.reduceLE, Int.reduceAdd, Int.reduceSub, Int.reduceNeg, m1, m2, m3, m4, m5]
/-- _law_pot -/
theorem d_pot (hf : P.defs[f]? = some ⟨.glob, none, 4, 2, .raw, bPot⟩) {ns : List Int} {k : Nat} (hk : k ≤ 3) :
    ∃ o, run P (n + 1) f [.scr (ns.map D.int), .int k] h = some (.ref h.length, h ++ [o]) ∧ Pot (h ++ [o]) h.length 0 ∧ (∀ m, Ob.low m o = true) := by
  obtain ⟨r, r0, own⟩ := p_own (P := P) (n := n) (h := h) (x := cellOf ns k) (y0 := some (.scr (ns.map D.int))) (y1 := some (.int k))
  obtain ⟨s, s0, s1, seed⟩ := p_seed (P := P) (n := n) (h := h) (x := cellOf ns k) (k := (k : Int)) ⟨by omega, by omega⟩ (y0 := some (.scr (ns.map D.int))) (y3 := some (.int r))
  refine ⟨.lst [.int r, .int s, .int 0], ?_, ⟨_, _, _, app_at _ _, r0, s0, s1, by decide, by decide⟩, fun m => rfl⟩
  exact (run_ret hf rfl (r := .ref h.length) (h1 := h ++ [.lst [.int r, .int s, .int 0]]) ((exs_nx (x_asg p_cell rfl)).trans ((exs_nx (x_asg own rfl)).trans (exs_rt (x_ret (e_mlst (es_cons (e_var rfl) (es_cons seed (es_cons E_cst es_nil))))))))).trans rfl
end
end GB

/-! equal data -/
namespace GB
open VI
theorem eqvs_ints : ∀ xs : List Int, D.eqvs (xs.map D.int) (xs.map D.int) = true
  | [] => rfl
  | x :: xs => by simp [D.eqvs, D.eqv, eqvs_ints xs]
theorem eqvs_strs : ∀ xs : List (List Nat), D.eqvs (xs.map D.str) (xs.map D.str) = true
  | [] => rfl
  | x :: xs => by simp [D.eqvs, D.eqv, eqvs_strs xs]
theorem plains_ints {n : Nat} : ∀ xs : List Int, D.plains n (xs.map D.int) = true
  | [] => rfl
  | x :: xs => by simp [D.plains, D.plain, plains_ints xs]
def okS (s : List Nat) : Bool := s.all fun c => decide (c < 1114112)
theorem plains_strs {n : Nat} : ∀ {xs : List (List Nat)}, xs.all okS = true → D.plains n (xs.map D.str) = true
  | [], _ => rfl
  | x :: xs, h => by
    simp only [List.all_cons, Bool.and_eq_true] at h
    have h1 : D.plain n (.str x) = true := by cases n <;> exact h.1
    simp only [List.map_cons, D.plains, h1, plains_strs h.2, Bool.and_self]
section
variable {h : Hh}
theorem eq_ints {xs : List Int} : eqD (.tup (xs.map D.int)) (.tup (xs.map D.int)) = some true := by
  have h1 : D.plain 60 (.tup (xs.map D.int)) = true := plains_ints xs
  have h2 : D.eqv (.tup (xs.map D.int)) (.tup (xs.map D.int)) = true := eqvs_ints xs
  unfold eqD
  rw [h1, h2]; rfl
theorem eq_strs {xs : List (List Nat)} (ok : xs.all okS = true) : eqD (.tup (xs.map D.str)) (.tup (xs.map D.str)) = some true := by
  have h1 : D.plain 60 (.tup (xs.map D.str)) = true := plains_strs ok
  have h2 : D.eqv (.tup (xs.map D.str)) (.tup (xs.map D.str)) = true := eqvs_strs xs
  unfold eqD
  rw [h1, h2]; rfl
theorem o_neI {xs : List Int} : op2 h .ne (.tup (xs.map D.int)) (.tup (xs.map D.int)) = some (.bl false) := by
  show (eqD _ _).map _ = _
  rw [eq_ints]; rfl
theorem o_neS {xs ys : List (List Nat)} (e : xs = ys) (ok : xs.all okS = true) : op2 h .ne (.tup (xs.map D.str)) (.tup (ys.map D.str)) = some (.bl false) := by
  subst e
  show (eqD _ _).map _ = _
  rw [eq_strs ok]; rfl
theorem o_eqSs {xs ys : List (List Nat)} (e : xs = ys) (ok : xs.all okS = true) : op2 h .eq (.tup (xs.map D.str)) (.tup (ys.map D.str)) = some (.bl true) := by
  subst e
  show (eqD _ _).map _ = _
  rw [eq_strs ok]; rfl
end
mutual
theorem same_eq : ∀ {a b : D}, same a b = true → a = b
  | .non, b, h => by cases b <;> first | rfl | (simp [same] at h)
  | .bl x, b, h => by cases b <;> first | (simp [same] at h; done) | (simp [same] at h; subst h; rfl)
  | .int x, b, h => by cases b <;> first | (simp [same] at h; done) | (simp [same] at h; subst h; rfl)
  | .str x, b, h => by cases b <;> first | (simp [same] at h; done) | (simp [same] at h; subst h; rfl)
  | .tup xs, b, h => by
    cases b with
    | tup ys => exact congrArg D.tup (sames_eq (by simpa [same] using h))
    | _ => simp [same] at h
  | .lst xs, b, h => by
    cases b with
    | lst ys => exact congrArg D.lst (sames_eq (by simpa [same] using h))
    | _ => simp [same] at h
  | .dct _ _, b, h => by cases b <;> simp [same] at h
  | .ref _, b, h => by cases b <;> simp [same] at h
  | .scr _, b, h => by cases b <;> simp [same] at h
theorem sames_eq : ∀ {a b : List D}, sames a b = true → a = b
  | [], b, h => by cases b with
    | nil => rfl
    | cons _ _ => simp [sames] at h
  | x :: xs, b, h => by
    cases b with
    | nil => simp [sames] at h
    | cons y ys =>
      simp only [sames, Bool.and_eq_true] at h
      rw [same_eq h.1, sames_eq h.2]
end
end GB

/-! rules as sums of products of factors: their text, their tree, and that the reader reads the one as the other -/
namespace GB
open VI
mutual
inductive Fa where
  | num (ds : List Nat) | ltr (c : Nat) | par (e : Su)
inductive Pd where
  | one (f : Fa) | mul (p : Pd) (f : Fa)
inductive Su where
  | one (p : Pd) | op (c : Nat) (e : Su) (p : Pd)
end
mutual
def Fa.tx : Fa → List Nat
  | .num ds => ds
  | .ltr c => [c]
  | .par e => 40 :: (e.tx ++ [41])
def Pd.tx : Pd → List Nat
  | .one f => f.tx
  | .mul p f => p.tx ++ 42 :: f.tx
def Su.tx : Su → List Nat
  | .one p => p.tx
  | .op c e p => e.tx ++ c :: p.tx
end
mutual
def Fa.tr : Fa → Tr
  | .num ds => .num (digV 0 ds)
  | .ltr c => .ltr c
  | .par e => e.tr
def Pd.tr : Pd → Tr
  | .one f => f.tr
  | .mul p f => .op 42 p.tr f.tr
def Su.tr : Su → Tr
  | .one p => p.tr
  | .op c e p => .op c e.tr p.tr
end
/-- a number's digits -/
def okNum (ds : List Nat) : Bool := decide (1 ≤ ds.length) && decide (ds.length ≤ 3) && ds.all (fun c => digits.contains c) && (decide (ds.getD 0 0 ≠ 48) || decide (ds = [48]))
mutual
/-- well built over some letters, k deep at most -/
def Fa.ok (ls : List Nat) : Nat → Fa → Bool
  | _, .num ds => okNum ds
  | _, .ltr c => ls.contains c
  | 0, .par _ => false
  | k + 1, .par e => e.ok ls k
def Pd.ok (ls : List Nat) : Nat → Pd → Bool
  | k, .one f => f.ok ls k
  | k, .mul p f => p.ok ls k && f.ok ls k
def Su.ok (ls : List Nat) : Nat → Su → Bool
  | k, .one p => p.ok ls k
  | k, .op c e p => (c == 43 || c == 45) && e.ok ls k && p.ok ls k
end
def hdIn (sg : List Nat) : List Nat → Bool
  | [] => false
  | c :: _ => sg.contains c
theorem comes_hd {pre post sg : List Nat} : comesP (pre ++ post) pre.length sg = hdIn sg post := by
  unfold comesP
  cases post with
  | nil => simp [hdIn]
  | cons c post => simp [hdIn]
theorem getD_hd {pre post : List Nat} {c : Nat} : (pre ++ c :: post).getD pre.length 0 = c := by simp [List.getD]
theorem word_hd {post : List Nat} (hp : hdIn digits post = false) : ∀ (ds pre w : List Nat) (m : Nat), ds.all (fun c => digits.contains c) = true → ds.length ≤ m → wordR (pre ++ (ds ++ post)) m w pre.length = (w ++ ds, pre.length + ds.length)
  | [], pre, w, m, _, _ => by
    cases m with
    | zero => simp [wordR]
    | succ m =>
      unfold wordR
      rw [List.nil_append, comes_hd, hp]; simp
  | d :: ds, pre, w, 0, _, h => by simp at h
  | d :: ds, pre, w, m + 1, hd, h => by
    have hd : digits.contains d = true ∧ ds.all (fun c => digits.contains c) = true := by simpa using hd
    unfold wordR
    rw [comes_hd, show hdIn digits (d :: ds ++ post) = true from hd.1]
    simp only []
    rw [List.cons_append, getD_hd]
    have ih := word_hd hp ds (pre ++ [d]) (w ++ [d]) m hd.2 (by simpa using h)
    rw [List.length_append, List.length_singleton, List.append_assoc, List.singleton_append] at ih
    rw [ih]
    simp; omega
theorem num_hd {post : List Nat} (hp : hdIn digits post = false) {ds pre : List Nat} {b : Bool} (ok : okNum ds = true) : numR (pre ++ (ds ++ post)) pre.length b = ((Tr.num (digV 0 ds)).d, pre.length + ds.length, b) := by
  unfold okNum at ok
  simp only [Bool.and_eq_true, Bool.or_eq_true, decide_eq_true_eq] at ok
  obtain ⟨⟨⟨h1, h2⟩, h3⟩, h4⟩ := ok
  unfold numR
  rw [word_hd hp ds pre [] _ h3 (by simp; omega)]
  simp only [List.nil_append]
  rw [if_neg]
  · rfl
  · rintro (q | ⟨q1, q2⟩)
    · omega
    · rcases h4 with q | q
      · exact q q1
      · exact q2 q
theorem digs_hd {ds post : List Nat} (ok : okNum ds = true) : hdIn digits (ds ++ post) = true := by
  unfold okNum at ok
  simp only [Bool.and_eq_true, decide_eq_true_eq] at ok
  cases ds with
  | nil => simp at ok
  | cons d ds =>
    have := ok.1.2
    simp only [List.all_cons, Bool.and_eq_true] at this
    exact this.1
def inn (s ls : List Nat) : Nat → Option (Nat → Bool → R)
  | 0 => none
  | k + 1 => some (sumR s ls k)
theorem sum_inn {s ls : List Nat} {k : Nat} : sumR s ls k = rowR s [43, 45] (rowR s [42] (facR s ls (inn s ls k))) := by cases k <;> rfl
/-- no letter is a digit, a parenthesis or a sign -/
def okLs (ls : List Nat) : Prop := ∀ c ∈ ls, digits.contains c = false ∧ c ≠ 40
theorem loop_stop {s sg : List Nat} {sub : Nat → Bool → R} {t : D} {p : Nat} {b : Bool} (h : comesP s p sg = false) : ∀ m, loopR s sg sub m t p b = (t, p, b)
  | 0 => rfl
  | m + 1 => by unfold loopR; rw [h]
theorem loop_go {s sg : List Nat} {sub : Nat → Bool → R} {t u : D} {p q : Nat} {b : Bool} {m : Nat} (h : comesP s p sg = true) (e : sub (p + 1) b = (u, q, b)) : loopR s sg sub (m + 1) t p b = loopR s sg sub m (.tup [.str [s.getD p 0], t, u]) q b := by
  conv => lhs; unfold loopR
  rw [h]
  simp only [e]
mutual
def Fa.sz : Fa → Nat
  | .num _ => 1
  | .ltr _ => 1
  | .par e => e.sz + 1
def Pd.sz : Pd → Nat
  | .one f => f.sz + 1
  | .mul p f => p.sz + f.sz + 1
def Su.sz : Su → Nat
  | .one p => p.sz + 1
  | .op _ e p => e.sz + p.sz + 1
end
def Pd.muls : Pd → Nat
  | .one _ => 0
  | .mul p _ => p.muls + 1
def Su.ops : Su → Nat
  | .one _ => 0
  | .op _ e _ => e.ops + 1
theorem muls_len : ∀ p : Pd, p.muls ≤ p.tx.length
  | .one _ => Nat.zero_le _
  | .mul p f => by
    have := muls_len p
    simp only [Pd.muls, Pd.tx, List.length_append, List.length_cons]; omega
theorem ops_len : ∀ e : Su, e.ops ≤ e.tx.length
  | .one _ => Nat.zero_le _
  | .op c e p => by
    have := ops_len e
    simp only [Su.ops, Su.tx, List.length_append, List.length_cons]; omega
/-- the reading of a factor, a product, a sum, within a text -/
def RdF (ls : List Nat) (k : Nat) (f : Fa) : Prop := ∀ (pre post : List Nat) (b : Bool), hdIn digits post = false → facR (pre ++ (f.tx ++ post)) ls (inn (pre ++ (f.tx ++ post)) ls k) pre.length b = (f.tr.d, pre.length + f.tx.length, b)
def RdP (ls : List Nat) (k : Nat) (p : Pd) : Prop := ∀ (pre post : List Nat) (b : Bool), hdIn (42 :: digits) post = false → rowR (pre ++ (p.tx ++ post)) [42] (facR (pre ++ (p.tx ++ post)) ls (inn (pre ++ (p.tx ++ post)) ls k)) pre.length b = (p.tr.d, pre.length + p.tx.length, b)
def RdS (ls : List Nat) (k : Nat) (e : Su) : Prop := ∀ (pre post : List Nat) (b : Bool), hdIn (43 :: 45 :: 42 :: digits) post = false → sumR (pre ++ (e.tx ++ post)) ls k pre.length b = (e.tr.d, pre.length + e.tx.length, b)
theorem hd_sub {sg sg' post : List Nat} (h : hdIn sg post = false) (s : ∀ c, sg'.contains c = true → sg.contains c = true) : hdIn sg' post = false := by
  cases post with
  | nil => rfl
  | cons c post =>
    cases q : sg'.contains c with
    | false => exact q
    | true =>
      have := s c q
      have h' : sg.contains c = false := h
      rw [h'] at this; cases this
/-- a product's loop -/
theorem prod_loop {ls : List Nat} {k : Nat} : ∀ {p : Pd}, (∀ f, (f.sz < p.sz ∧ f.ok ls k = true) → RdF ls k f) → p.ok ls k = true → ∀ (pre post : List Nat) (b : Bool), hdIn digits post = false → ∀ s, s = pre ++ (p.tx ++ post) →
    rowR s [42] (facR s ls (inn s ls k)) pre.length b = loopR s [42] (facR s ls (inn s ls k)) (s.length - p.muls) p.tr.d (pre.length + p.tx.length) b
  | .one f, hf, ok, pre, post, b, hp, s, es => by
    have r := hf f ⟨by simp [Pd.sz], ok⟩ pre post b hp
    have e : pre ++ (f.tx ++ post) = s := es.symm
    rw [e] at r
    unfold rowR
    rw [r]
    rfl
  | .mul p f, hf, ok, pre, post, b, hp, s, es => by
    have ok : p.ok ls k = true ∧ f.ok ls k = true := by simpa [Pd.ok] using ok
    have e1 : s = pre ++ (p.tx ++ (42 :: (f.tx ++ post))) := by rw [es]; simp [Pd.tx]
    have ih := prod_loop (p := p) (fun g hg => hf g ⟨by have := hg.1; simp only [Pd.sz]; omega, hg.2⟩) ok.1 pre (42 :: (f.tx ++ post)) b (by rfl) s e1
    have e2 : s = (pre ++ p.tx ++ [42]) ++ (f.tx ++ post) := by rw [e1]; simp
    have e3 : s = (pre ++ p.tx) ++ (42 :: (f.tx ++ post)) := by rw [e1]; simp
    have rf := hf f ⟨by simp only [Pd.sz]; omega, ok.2⟩ (pre ++ p.tx ++ [42]) post b hp
    rw [← e2] at rf
    have lp : (pre ++ p.tx ++ [42]).length = pre.length + p.tx.length + 1 := by simp; omega
    rw [lp] at rf
    have c1 : comesP s (pre.length + p.tx.length) [42] = true := by
      rw [e3, show pre.length + p.tx.length = (pre ++ p.tx).length by simp, comes_hd]; rfl
    have g1 : s.getD (pre.length + p.tx.length) 0 = 42 := by
      rw [e3, show pre.length + p.tx.length = (pre ++ p.tx).length by simp, getD_hd]
    have sl : s.length - p.muls = (s.length - (p.muls + 1)) + 1 := by
      have := muls_len p
      have : s.length = pre.length + (p.tx.length + (f.tx.length + post.length + 1)) := by rw [e1]; simp
      omega
    rw [ih, sl, loop_go c1 rf, g1]
    simp only [Pd.muls, Pd.tr, Tr.d, Pd.tx, List.length_append, List.length_cons]
    congr 1
    omega
theorem prod_rd {ls : List Nat} {k : Nat} {p : Pd} (hf : ∀ f, (f.sz < p.sz ∧ f.ok ls k = true) → RdF ls k f) (ok : p.ok ls k = true) : RdP ls k p := fun pre post b hp => by
  rw [prod_loop hf ok pre post b (hd_sub hp fun c q => by simp only [List.contains_cons, q, Bool.or_true]) _ rfl, loop_stop]
  rw [← List.append_assoc, show pre.length + p.tx.length = (pre ++ p.tx).length by simp, comes_hd]
  exact hd_sub hp fun c q => by
    simp only [List.contains_cons, List.contains_nil, Bool.or_false] at q
    simp only [List.contains_cons, q, Bool.true_or]
/-- a sum's loop -/
theorem sum_loop {ls : List Nat} {k : Nat} : ∀ {e : Su}, (∀ p, (p.sz < e.sz ∧ p.ok ls k = true) → RdP ls k p) → e.ok ls k = true → ∀ (pre post : List Nat) (b : Bool), hdIn (42 :: digits) post = false → ∀ s, s = pre ++ (e.tx ++ post) →
    sumR s ls k pre.length b = loopR s [43, 45] (rowR s [42] (facR s ls (inn s ls k))) (s.length - e.ops) e.tr.d (pre.length + e.tx.length) b
  | .one p, hf, ok, pre, post, b, hp, s, es => by
    have r := hf p ⟨by simp [Su.sz], ok⟩ pre post b hp
    have e : pre ++ (p.tx ++ post) = s := es.symm
    rw [e] at r
    rw [sum_inn]
    unfold rowR at r ⊢
    rw [r]
    rfl
  | .op c e p, hf, ok, pre, post, b, hp, s, es => by
    have ok : (c = 43 ∨ c = 45) ∧ e.ok ls k = true ∧ p.ok ls k = true := by
      simp only [Su.ok, Bool.and_eq_true, Bool.or_eq_true, beq_iff_eq] at ok
      exact ⟨ok.1.1, ok.1.2, ok.2⟩
    have e1 : s = pre ++ (e.tx ++ (c :: (p.tx ++ post))) := by rw [es]; simp [Su.tx]
    have hc : hdIn (42 :: digits) (c :: (p.tx ++ post)) = false := by rcases ok.1 with rfl | rfl <;> rfl
    have ih := sum_loop (e := e) (fun g hg => hf g ⟨by have := hg.1; simp only [Su.sz]; omega, hg.2⟩) ok.2.1 pre (c :: (p.tx ++ post)) b hc s e1
    have e2 : s = (pre ++ e.tx ++ [c]) ++ (p.tx ++ post) := by rw [e1]; simp
    have e3 : s = (pre ++ e.tx) ++ (c :: (p.tx ++ post)) := by rw [e1]; simp
    have rf := hf p ⟨by simp only [Su.sz]; omega, ok.2.2⟩ (pre ++ e.tx ++ [c]) post b hp
    rw [← e2] at rf
    have lp : (pre ++ e.tx ++ [c]).length = pre.length + e.tx.length + 1 := by simp; omega
    rw [lp] at rf
    have c1 : comesP s (pre.length + e.tx.length) [43, 45] = true := by
      rw [e3, show pre.length + e.tx.length = (pre ++ e.tx).length by simp, comes_hd]
      rcases ok.1 with rfl | rfl <;> rfl
    have g1 : s.getD (pre.length + e.tx.length) 0 = c := by
      rw [e3, show pre.length + e.tx.length = (pre ++ e.tx).length by simp, getD_hd]
    have sl : s.length - e.ops = (s.length - (e.ops + 1)) + 1 := by
      have := ops_len e
      have : s.length = pre.length + (e.tx.length + (p.tx.length + post.length + 1)) := by rw [e1]; simp
      omega
    rw [ih, sl, loop_go c1 rf, g1]
    simp only [Su.ops, Su.tr, Tr.d, Su.tx, List.length_append, List.length_cons]
    congr 1
    omega
theorem sum_rd {ls : List Nat} {k : Nat} {e : Su} (hf : ∀ p, (p.sz < e.sz ∧ p.ok ls k = true) → RdP ls k p) (ok : e.ok ls k = true) : RdS ls k e := fun pre post b hp => by
  rw [sum_loop hf ok pre post b (hd_sub hp fun c q => by
    simp only [List.contains_cons] at q ⊢
    simp only [q, Bool.or_true]) _ rfl, loop_stop]
  rw [← List.append_assoc, show pre.length + e.tx.length = (pre ++ e.tx).length by simp, comes_hd]
  exact hd_sub hp fun c q => by
    simp only [List.contains_cons, List.contains_nil, Bool.or_false, Bool.or_eq_true] at q ⊢
    rcases q with q | q <;> simp [q]
/-- a factor is read -/
theorem fac_rd {ls : List Nat} (hl : okLs ls) {k : Nat} {f : Fa} (hs : ∀ e k', k = k' + 1 → f = .par e → RdS ls k' e) (ok : f.ok ls k = true) : RdF ls k f := fun pre post b hp => by
  cases f with
  | num ds =>
    have ok : okNum ds = true := by cases k <;> simpa [Fa.ok] using ok
    unfold facR
    simp only [Fa.tx, Fa.tr]
    rw [comes_hd, digs_hd ok]
    exact num_hd hp ok
  | ltr c =>
    have ok : c ∈ ls := by cases k <;> simpa [Fa.ok] using ok
    have h1 := (hl c ok).1
    unfold facR
    simp only [Fa.tx, Fa.tr, List.singleton_append]
    rw [comes_hd, comes_hd, getD_hd, show hdIn digits (c :: post) = false from h1, show hdIn ls (c :: post) = true by simpa [hdIn] using ok]
    rfl
  | par e =>
    cases k with
    | zero => simp [Fa.ok] at ok
    | succ k =>
      have n40 : ls.contains 40 = false := by
        cases q : ls.contains 40 with
        | false => rfl
        | true => exact absurd rfl (hl 40 (by simpa using q)).2
      have r := hs e k rfl rfl (pre ++ [40]) (41 :: post) b (by rfl)
      have e1 : (pre ++ [40]) ++ (e.tx ++ (41 :: post)) = pre ++ ((Fa.par e).tx ++ post) := by simp [Fa.tx]
      rw [e1] at r
      have lp : (pre ++ [40]).length = pre.length + 1 := by simp
      rw [lp] at r
      obtain ⟨s, es⟩ : ∃ s, s = pre ++ ((Fa.par e).tx ++ post) := ⟨_, rfl⟩
      rw [← es] at r ⊢
      have hd : s = pre ++ (40 :: (e.tx ++ (41 :: post))) := by rw [es]; simp [Fa.tx]
      have c1 : comesP s pre.length digits = false := by rw [hd, comes_hd]; rfl
      have c2 : comesP s pre.length ls = false := by rw [hd, comes_hd]; exact n40
      have c3 : comesP s pre.length [40] = true := by rw [hd, comes_hd]; rfl
      have c4 : comesP s (pre.length + 1 + e.tx.length) [41] = true := by
        have : s = (pre ++ 40 :: e.tx) ++ (41 :: post) := by rw [hd]; simp
        rw [this, show pre.length + 1 + e.tx.length = (pre ++ 40 :: e.tx).length by simp; omega, comes_hd]; rfl
      unfold facR
      rw [c1, c2, c3]
      simp only [inn]
      rw [r]
      simp only [c4]
      simp only [Fa.tr, Fa.tx, List.length_cons, List.length_append, List.length_nil]
      congr 2
      omega
theorem all_rd {ls : List Nat} (hl : okLs ls) (n : Nat) : (∀ f k, Fa.sz f < n → f.ok ls k = true → RdF ls k f) ∧ (∀ p k, Pd.sz p < n → p.ok ls k = true → RdP ls k p) ∧ (∀ e k, Su.sz e < n → e.ok ls k = true → RdS ls k e) := by
  induction n with
  | zero => exact ⟨fun _ _ h => absurd h (Nat.not_lt_zero _), fun _ _ h => absurd h (Nat.not_lt_zero _), fun _ _ h => absurd h (Nat.not_lt_zero _)⟩
  | succ n ih =>
    obtain ⟨i1, i2, i3⟩ := ih
    refine ⟨fun f k h ok => fac_rd hl (fun e k' e1 e2 => ?_) ok, fun p k h ok => prod_rd (fun f hf => i1 f k (Nat.lt_of_lt_of_le hf.1 (Nat.le_of_lt_succ h)) hf.2) ok, fun e k h ok => sum_rd (fun p hp => i2 p k (Nat.lt_of_lt_of_le hp.1 (Nat.le_of_lt_succ h)) hp.2) ok⟩
    subst e1
    subst e2
    have h' : e.sz + 1 < n + 1 := h
    have ok' : e.ok ls k' = true := ok
    exact i3 e k' (Nat.lt_of_succ_lt_succ h') ok'
/-- a rule's text is read as its tree -/
theorem rule_su {ls : List Nat} (hl : okLs ls) {e : Su} (ok : e.ok ls 6 = true) (h1 : 1 ≤ e.tx.length) (h2 : e.tx.length ≤ 40) : ruleR e.tx ls = e.tr.d := by
  have r := (all_rd hl (e.sz + 1)).2.2 e 6 (by omega) ok [] [] false rfl
  simp only [List.nil_append, List.append_nil, List.length_nil, Nat.zero_add] at r
  unfold ruleR
  rw [if_pos ⟨h1, h2⟩, r]
  simp
theorem dig_lt (ds : List Nat) : ∀ (a : Nat), ds.all (fun c => digits.contains c) = true → digV a ds < (a + 1) * 10 ^ ds.length := by
  induction ds with
  | nil =>
    intro a _
    rw [List.length_nil, Nat.pow_zero, Nat.mul_one]
    exact Nat.lt_succ_self a
  | cons d ds ih =>
    intro a h
    rw [List.all_cons, Bool.and_eq_true] at h
    have hd : d - 48 ≤ 9 := by
      have : d ∈ digits := List.contains_iff_mem.mp h.1
      simp only [digits, List.mem_cons, List.not_mem_nil, or_false] at this
      omega
    have ih := ih (a * 10 + (d - 48)) h.2
    have e : digV a (d :: ds) = digV (a * 10 + (d - 48)) ds := rfl
    rw [e, List.length_cons, Nat.pow_succ]
    refine Nat.lt_of_lt_of_le ih ?_
    have h1 : a * 10 + (d - 48) + 1 ≤ (a + 1) * 10 := by omega
    have h2 : (a * 10 + (d - 48) + 1) * 10 ^ ds.length ≤ (a + 1) * 10 * 10 ^ ds.length := Nat.mul_le_mul_right _ h1
    have h3 : (a + 1) * 10 * 10 ^ ds.length = (a + 1) * (10 ^ ds.length * 10) := by rw [Nat.mul_assoc, Nat.mul_comm 10]
    rw [← h3]
    exact h2
mutual
theorem fa_wt {ls : List Nat} : ∀ (f : Fa) (k : Nat), f.ok ls k = true → Wt ls f.tr f.tx.length
  | .num ds, k, ok => by
    have ok : okNum ds = true := by cases k <;> simpa [Fa.ok] using ok
    unfold okNum at ok
    simp only [Bool.and_eq_true, decide_eq_true_eq] at ok
    have := dig_lt ds 0 ok.1.2
    exact .num (by simpa [Fa.tx] using this) ok.1.1.1
  | .ltr c, k, ok => .ltr (by cases k <;> simpa [Fa.ok] using ok) (by simp [Fa.tx])
  | .par e, 0, ok => by simp [Fa.ok] at ok
  | .par e, k + 1, ok => (su_wt e k (by simpa [Fa.ok] using ok)).mono (by simp [Fa.tx]; omega)
theorem pd_wt {ls : List Nat} : ∀ (p : Pd) (k : Nat), p.ok ls k = true → Wt ls p.tr p.tx.length
  | .one f, k, ok => fa_wt f k (by simpa [Pd.ok] using ok)
  | .mul p f, k, ok => by
    have ok : p.ok ls k = true ∧ f.ok ls k = true := by simpa [Pd.ok] using ok
    exact .op (.inl rfl) (pd_wt p k ok.1) (fa_wt f k ok.2) (by simp [Pd.tx]; omega)
theorem su_wt {ls : List Nat} : ∀ (e : Su) (k : Nat), e.ok ls k = true → Wt ls e.tr e.tx.length
  | .one p, k, ok => pd_wt p k (by simpa [Su.ok] using ok)
  | .op c e p, k, ok => by
    simp only [Su.ok, Bool.and_eq_true, Bool.or_eq_true, beq_iff_eq] at ok
    exact .op (by rcases ok.1.1 with q | q <;> simp [q]) (su_wt e k ok.1.2) (pd_wt p k ok.2) (by simp [Su.tx]; omega)
end
end GB

/-! rules that are drawn -/
namespace GB
open VI
def bOf : SL :=
  (.cons (.ret (.idx (.var 1) (.call 32 (.cons (.var 0) (.cons (.bi .len (.cons (.var 1) .nil)) .nil)))))
 .nil)
def bFac : SL :=
  (.cons (.asg (.nm 3) (.call 32 (.cons (.var 0) (.cons (.cst (.int 5)) .nil))))
 (.cons (.ite (.cmp .lt (.var 3) (.cst (.int 2)))
  (.cons (.ret (.call 33 (.cons (.var 0) (.cons (.lst (.cons (.cst (.str [48])) (.cons (.cst (.str [49])) (.cons (.cst (.str [50])) (.cons (.cst (.str [51])) (.cons (.cst (.str [55])) (.cons (.cst (.str [49, 48])) (.cons (.cst (.str [57, 57])) (.cons (.cst (.str [57, 57, 57])) .nil))))))))) .nil))))
   .nil)
  .nil)
 (.cons (.ite (.orV (.cmp .lt (.var 3) (.cst (.int 4))) (.cmp .eq (.var 2) (.cst (.int 0))))
  (.cons (.ret (.call 33 (.cons (.var 0) (.cons (.var 1) .nil))))
   .nil)
  .nil)
 (.cons (.ret (.bin .add (.bin .add (.cst (.str [40])) (.call 36 (.cons (.var 0) (.cons (.var 1) (.cons (.bin .sub (.var 2) (.cst (.int 1))) .nil))))) (.cst (.str [41]))))
 .nil))))
def bProd : SL :=
  (.cons (.ret (.join (.cst (.str [42])) (.lc (.nm 3) [3] (.range1 (.bin .add (.cst (.int 1)) (.call 32 (.cons (.var 0) (.cons (.cst (.int 2)) .nil))))) (.cst (.bl true)) (.call 34 (.cons (.var 0) (.cons (.var 1) (.cons (.var 2) .nil)))))))
 .nil)
def bSum : SL :=
  (.cons (.asg (.nm 3) (.call 35 (.cons (.var 0) (.cons (.var 1) (.cons (.var 2) .nil)))))
 (.cons (.for (.nm 4) (.range1 (.call 32 (.cons (.var 0) (.cons (.cst (.int 3)) .nil))))
  (.cons (.asg (.nm 3) (.bin .add (.bin .add (.var 3) (.call 33 (.cons (.var 0) (.cons (.lst (.cons (.cst (.str [43])) (.cons (.cst (.str [45])) .nil))) .nil)))) (.call 35 (.cons (.var 0) (.cons (.var 1) (.cons (.var 2) .nil))))))
   .nil))
 (.cons (.ret (.var 3))
 .nil)))
def bRule : SL :=
  (.cons (.asg (.nm 3) (.slH (.cst (.str [115, 97, 98, 99])) (.bin .add (.cst (.int 1)) (.var 1))))
 (.cons (.asg (.nm 4) (.call 36 (.cons (.var 0) (.cons (.var 3) (.cons (.var 2) .nil)))))
 (.cons (.ite (.cmp .lt (.bi .len (.cons (.var 4) .nil)) (.cst (.int 41)))
  (.cons (.ret (.var 4))
   .nil)
  .nil)
 (.cons (.ret (.bin .add (.bin .add (.bin .add (.cst (.str [115, 42])) (.call 33 (.cons (.var 0) (.cons (.var 3) .nil)))) (.cst (.str [43]))) (.call 33 (.cons (.var 0) (.cons (.var 3) .nil)))))
 .nil))))
def bNames : SL :=
  (.cons (.asgT [(.nm 3), (.nm 4)] (.cons (.cst (.str [97, 98, 99, 100, 101, 102, 103, 104, 105, 106, 107, 108, 109, 110, 111, 112, 113, 114, 115, 116, 117, 118, 119, 120, 121, 122])) (.cons (.call 32 (.cons (.var 0) (.cons (.cst (.int 8)) .nil))) .nil)))
 (.cons (.asg (.nm 2) (.join (.cst (.str [])) (.lc (.nm 8) [8] (.range1 (.var 4)) (.cst (.bl true)) (.call 33 (.cons (.var 0) (.cons (.var 3) .nil))))))
 (.cons (.asgT [(.nm 5), (.nm 6)] (.cons (.call 32 (.cons (.var 0) (.cons (.bin .add (.var 4) (.cst (.int 1))) .nil))) (.cons (.call 32 (.cons (.var 0) (.cons (.cst (.int 26)) .nil))) .nil)))
 (.cons (.ret (.lc (.nm 7) [7] (.range1 (.var 1)) (.cst (.bl true)) (.bin .add (.bin .add (.slH (.var 2) (.var 5)) (.idx (.var 3) (.bin .mod (.bi .int (.cons (.bin .add (.var 6) (.bin .mul (.cst (.int 7)) (.var 7))) .nil)) (.cst (.int 26))))) (.slT (.var 2) (.var 5)))))
 .nil))))
def bTasks : SL :=
  (.cons (.par 4 5 (.call 38 (.cons (.var 0) (.cons (.var 1) .nil))) (.mlst .nil))
 (.cons (.for (.tp [6, 7]) (.enum (.var 4))
  (.cons (.par 10 11 (.mslH (.var 4) (.var 6)) (.mlst .nil))
   (.cons (.for (.nm 8) (.range1 (.bi .min (.cons (.var 6) (.cons (.call 32 (.cons (.var 0) (.cons (.cst (.int 4)) .nil))) .nil))))
    (.cons (.expr (.app (.var 11) (.popA (.var 10) (.call 32 (.cons (.var 0) (.cons (.bi .len (.cons (.var 10) .nil)) .nil))))))
     .nil))
   (.cons (.asg (.nm 9) (.bin .add (.cst (.int 1)) (.call 32 (.cons (.var 0) (.cons (.var 2) .nil)))))
   (.cons (.expr (.app (.var 5) (.tup (.cons (.var 7) (.cons (.bin .add (.cst (.int 2)) (.call 32 (.cons (.var 0) (.cons (.cst (.int 4)) .nil)))) (.cons (.bi .tuple (.cons (.var 11) .nil)) (.cons (.var 9) (.cons (.call 37 (.cons (.var 0) (.cons (.bi .len (.cons (.var 11) .nil)) (.cons (.var 3) .nil)))) .nil))))))))
   .nil)))))
 (.cons (.ret (.bi .tuple (.cons (.var 5) .nil)))
 .nil)))
/-- the defs that draw -/
structure Ds (P : Pg) : Prop where
  pot : P.defs[31]? = some ⟨.glob, none, 4, 2, .raw, bPot⟩
  take : P.defs[32]? = some ⟨.glob, none, 5, 2, .clo, bTake⟩
  of_ : P.defs[33]? = some ⟨.glob, none, 2, 2, .clo, bOf⟩
  fac : P.defs[34]? = some ⟨.glob, none, 4, 3, .clo, bFac⟩
  prod : P.defs[35]? = some ⟨.glob, none, 4, 3, .clo, bProd⟩
  sum : P.defs[36]? = some ⟨.glob, none, 5, 3, .clo, bSum⟩
  rule : P.defs[37]? = some ⟨.glob, none, 5, 3, .clo, bRule⟩
/-- the pot alone was changed -/
structure DR (h : Hh) (l k : Nat) (h' : Hh) : Prop where
  ex : ∃ o, h' = h.set l o ∧ ∀ m, Ob.low m o = true
  pot : Pot h' l k
section
variable {P : Pg} {n l k : Nat} {h h1 h2 : Hh}
theorem Pot.mono {k' : Nat} (p : Pot h l k) (q : k ≤ k') : Pot h l k' := by
  obtain ⟨a, b, c, h1, h2, h3, h4, h5, h6⟩ := p.ex
  exact ⟨a, b, c, h1, h2, h3, h4, h5, by omega⟩
theorem DR.rfl (p : Pot h l k) : DR h l k h := by
  obtain ⟨a, b, c, e, _⟩ := p.ex
  obtain ⟨hl, e2⟩ := List.getElem?_eq_some_iff.mp e
  exact ⟨⟨.lst [.int a, .int b, .int c], by rw [← e2]; simp, fun m => _root_.rfl⟩, p⟩
theorem DR.trans {k1 k2 : Nat} (a : DR h l k1 h1) (b : DR h1 l k2 h2) : DR h l k2 h2 := by
  obtain ⟨⟨o, e1, _⟩, _⟩ := a
  obtain ⟨⟨o2, e2, l2⟩, p⟩ := b
  exact ⟨⟨o2, by rw [e2, e1, List.set_set], l2⟩, p⟩
theorem DR.mono {k' : Nat} (a : DR h l k h1) (q : k ≤ k') : DR h l k' h1 := ⟨a.ex, a.pot.mono q⟩
theorem DR.len (a : DR h l k h1) : h1.length = h.length := by
  obtain ⟨⟨o, e, _⟩, _⟩ := a
  rw [e, List.length_set]
theorem DR.cl (a : DR h l k h1) (c : Cl h) : Cl h1 := by
  obtain ⟨⟨o, e, lo⟩, _⟩ := a
  rw [e]
  exact cl_set c (lo _)
/-- other cells stay -/
theorem DR.other {m : Nat} (a : DR h l k h1) (ne : m ≠ l) : h1[m]? = h[m]? := by
  obtain ⟨⟨o, e, _⟩, _⟩ := a
  rw [e, List.getElem?_set_ne (Ne.symm ne)]
theorem t_take (Z : Ds P) (p : Pot h l k) (hk : k < 1000000) {u : Int} (u0 : 1 ≤ u) (u1 : u ≤ 1000000) : ∃ (r : Nat) (h' : Hh), run P (n + 1) 32 [.ref l, .int u] h = some (.int r, h') ∧ (r : Int) < u ∧ DR h l (k + 1) h' := by
  obtain ⟨r, o, e, r0, r1, p', lo⟩ := d_take (n := n) Z.take p hk u0 u1
  refine ⟨r.toNat, h.set l o, ?_, by omega, ⟨⟨o, rfl, lo⟩, p'⟩⟩
  rw [e, show ((r.toNat : Nat) : Int) = r by omega]
theorem ix_lst {xs : List D} {x : D} {i : Nat} (e : xs[i]? = some x) : idxF h (.lst xs) (.int i) = some x := by
  show atD xs (i : Int) = _
  unfold atD
  rw [if_pos (by omega), Int.toNat_natCast]; exact e
/-- _law_of, of a list -/
theorem t_of (Z : Ds P) (p : Pot h l k) (hk : k < 1000000) {xs : List D} (h1 : 1 ≤ xs.length) (h2 : xs.length ≤ 1000) : ∃ (x : D) (h' : Hh), x ∈ xs ∧ run P (n + 2) 33 [.ref l, .lst xs] h = some (x, h') ∧ DR h l (k + 1) h' := by
  obtain ⟨r, h', e, r1, d⟩ := t_take (n := n) Z p hk (u := xs.length) (by omega) (by omega)
  have hr : r < xs.length := by omega
  refine ⟨xs[r], h', List.getElem_mem hr, ?_, d⟩
  refine (run_ret Z.of_ rfl (exs_rt (x_ret (e_idx (e_var rfl) (e_call (es_cons (e_var rfl) (es_cons (e_bi (es_cons (e_var rfl) es_nil) bi_lenL) es_nil)) e) (ix_lst (List.getElem?_eq_getElem hr)))))).trans (back_same d.len)
/-- _law_of, of a text -/
theorem t_ofS (Z : Ds P) (p : Pot h l k) (hk : k < 1000000) {s : List Nat} (h1 : 1 ≤ s.length) (h2 : s.length ≤ 1000) : ∃ (c : Nat) (h' : Hh), c ∈ s ∧ run P (n + 2) 33 [.ref l, .str s] h = some (.str [c], h') ∧ DR h l (k + 1) h' := by
  obtain ⟨r, h', e, r1, d⟩ := t_take (n := n) Z p hk (u := s.length) (by omega) (by omega)
  have hr : r < s.length := by omega
  refine ⟨s[r], h', List.getElem_mem hr, ?_, d⟩
  refine (run_ret Z.of_ rfl (exs_rt (x_ret (e_idx (e_var rfl) (e_call (es_cons (e_var rfl) (es_cons (e_bi (es_cons (e_var rfl) es_nil) (len_str h2)) es_nil)) e) ((idx_str h2 hr).trans ?_))))).trans (back_same d.len)
  rw [getD_at hr]
def cF : Nat → Nat
  | 0 => 2
  | d + 1 => 2 + (3 + 3 * (1 + 2 * cF d))
def lF : Nat → Nat
  | 0 => 3
  | d + 1 => 3 * (2 * lF d + 1) + 4
def nums : List (List Nat) := [[48], [49], [50], [51], [55], [49, 48], [57, 57], [57, 57, 57]]
theorem nums_ok : ∀ w ∈ nums, okNum w = true ∧ w.length ≤ 3 := by decide
/-- what a factor's drawing gives -/
def TF (P : Pg) (ls : List Nat) (d f : Nat) : Prop := ∀ (h : Hh) (l k n : Nat), Pot h l k → k + cF d ≤ 900000 → ∃ (t : Fa) (h' : Hh), t.ok ls d = true ∧ 1 ≤ t.tx.length ∧ t.tx.length ≤ lF d ∧ run P (n + f) 34 [.ref l, .str ls, .int d] h = some (.str t.tx, h') ∧ DR h l (k + cF d) h'
def TP (P : Pg) (ls : List Nat) (d f : Nat) : Prop := ∀ (h : Hh) (l k n : Nat), Pot h l k → k + (1 + 2 * cF d) ≤ 900000 → ∃ (t : Pd) (h' : Hh), t.ok ls d = true ∧ 1 ≤ t.tx.length ∧ t.tx.length ≤ 2 * lF d + 1 ∧ run P (n + f) 35 [.ref l, .str ls, .int d] h = some (.str t.tx, h') ∧ DR h l (k + (1 + 2 * cF d)) h'
def TS (P : Pg) (ls : List Nat) (d f : Nat) : Prop := ∀ (h : Hh) (l k n : Nat), Pot h l k → k + (3 + 3 * (1 + 2 * cF d)) ≤ 900000 → ∃ (t : Su) (h' : Hh), t.ok ls d = true ∧ 1 ≤ t.tx.length ∧ t.tx.length ≤ 3 * (2 * lF d + 1) + 2 ∧ run P (n + f) 36 [.ref l, .str ls, .int d] h = some (.str t.tx, h') ∧ DR h l (k + (3 + 3 * (1 + 2 * cF d))) h'
theorem rng_nat {m : Nat} : rangeL 0 (m : Int) = (List.range m).map fun (k : Nat) => D.int (k : Int) := by
  unfold rangeL
  rw [show ((m : Int) - 0).toNat = m by omega]
  exact List.map_congr_left fun k _ => by congr 1; omega
/-- a product from its factors -/
theorem t_prod (Z : Ds P) {ls : List Nat} {d f : Nat} (hd : lF d ≤ 10000) (F : TF P ls d f) (hf : 1 ≤ f) : TP P ls d (f + 1) := fun h l k n p hk => by
  obtain ⟨r, h1, e1, r1, d1⟩ := t_take (n := n + f - 1) Z p (by omega) (u := 2) (by decide) (by decide)
  rw [show n + f - 1 + 1 = n + f by omega] at e1
  have it : evI P (run P (n + f)) (.range1 (.bin .add (.cst (.int 1)) (.call 32 (.cons (.var 0) (.cons (.cst (.int 2)) .nil))))) [some (.ref l), some (.str ls), some (.int d), none] h = some (rangeL 0 (((r + 1 : Nat)) : Int), h1) := by
    refine i_rng1 (e_bin E_cst (e_call (es_cons (e_var rfl) (es_cons E_cst es_nil)) e1) (o_add.trans ?_)) (within_nat (by omega))
    rw [show ((1 : Int) + r) = ((r + 1 : Nat) : Int) by omega]
  obtain ⟨t1, g1, k1, m1, n1, q1, dr1⟩ := F h1 l (k + 1) n d1.pot (by omega)
  have fin : ∀ (t : Pd) (g : Hh) (ts : List (List Nat)), t.ok ls d = true → t.tx = joinL [42] ts → ts.length ≤ 2 → (ts.map List.length).sum ≤ 2 * lF d → 1 ≤ t.tx.length → t.tx.length ≤ 2 * lF d + 1 → DR h l (k + (1 + 2 * cF d)) g →
      ev P (run P (n + f)) (.lc (.nm 3) [3] (.range1 (.bin .add (.cst (.int 1)) (.call 32 (.cons (.var 0) (.cons (.cst (.int 2)) .nil))))) (.cst (.bl true)) (.call 34 (.cons (.var 0) (.cons (.var 1) (.cons (.var 2) .nil))))) [some (.ref l), some (.str ls), some (.int d), none] h = some (.lst (ts.map D.str), g) →
      ∃ (t : Pd) (h' : Hh), t.ok ls d = true ∧ 1 ≤ t.tx.length ∧ t.tx.length ≤ 2 * lF d + 1 ∧ run P (n + (f + 1)) 35 [.ref l, .str ls, .int d] h = some (.str t.tx, h') ∧ DR h l (k + (1 + 2 * cF d)) h' := fun t g ts ok et lt sm a b dr e => by
    refine ⟨t, g, ok, a, b, ?_, dr⟩
    have tx : ∀ ts : List (List Nat), textsOf (ts.map D.str) = some ts := fun ts => by
      induction ts with
      | nil => rfl
      | cons a ts ih => simp [textsOf, ih]
    have jn : ev P (run P (n + f)) (.join (.cst (.str [42])) (.lc (.nm 3) [3] (.range1 (.bin .add (.cst (.int 1)) (.call 32 (.cons (.var 0) (.cons (.cst (.int 2)) .nil))))) (.cst (.bl true)) (.call 34 (.cons (.var 0) (.cons (.var 1) (.cons (.var 2) .nil)))))) [some (.ref l), some (.str ls), some (.int d), none] h = some (.str t.tx, g) := by
      rw [E_join, E_cst, Option.bind_some, e, Option.bind_some]
      simp only [ltOf, lstOf, Option.bind_some, tx]
      rw [if_pos ⟨by decide, by omega, Nat.le_of_lt (Nat.lt_of_le_of_lt sm (by unfold lim; omega))⟩, et]
    exact (run_ret Z.prod rfl (exs_rt (x_ret jn))).trans (back_same dr.len)
  have turn : ∀ {g g' : Hh} {i : Nat} {t : Fa}, run P (n + f) 34 [.ref l, .str ls, .int d] g = some (.str t.tx, g') → ev P (run P (n + f)) (.call 34 (.cons (.var 0) (.cons (.var 1) (.cons (.var 2) .nil)))) [some (.ref l), some (.str ls), some (.int d), some (.int (i : Int))] g = some (.str t.tx, g') := fun q => e_call (es_cons (e_var rfl) (es_cons (e_var rfl) (es_cons (e_var rfl) es_nil))) q
  have hr : r = 0 ∨ r = 1 := by omega
  rcases hr with rfl | rfl
  · refine fin (.one t1) g1 [t1.tx] k1 rfl (by simp) (by simp; omega) (by simpa [Pd.tx] using m1) (by simp only [Pd.tx]; omega) ((d1.trans dr1).mono (by omega)) ?_
    refine e_lc it (lim_big (by rw [rangeL_len]; omega)) ?_
    rw [rng_nat]
    show lcLoop _ _ _ _ [D.int ((0 : Nat) : Int)] h1 = _
    simp only [lcLoop, put, Option.bind_some, E_cst]
    rw [show (wipeE [some (D.ref l), some (D.str ls), some (D.int (d : Int)), none] [3]).set 3 (some (D.int ((0 : Nat) : Int))) = [some (.ref l), some (.str ls), some (.int d), some (.int ((0 : Nat) : Int))] from rfl, turn q1]
    rfl
  · obtain ⟨t2, g2, k2, m2, n2, q2, dr2⟩ := F g1 l (k + 1 + cF d) n dr1.pot (by omega)
    refine fin (.mul (.one t1) t2) g2 [t1.tx, t2.tx] (by simp [Pd.ok, k1, k2]) (by simp [Pd.tx, joinL]) (by simp) (by simp; omega) (by simp [Pd.tx]; omega) (by simp [Pd.tx]; omega) ((d1.trans (dr1.trans dr2)).mono (by omega)) ?_
    refine e_lc it (lim_big (by rw [rangeL_len]; omega)) ?_
    rw [rng_nat]
    show lcLoop _ _ _ _ [D.int ((0 : Nat) : Int), D.int ((1 : Nat) : Int)] h1 = _
    simp only [lcLoop, put, Option.bind_some, E_cst]
    rw [show (wipeE [some (D.ref l), some (D.str ls), some (D.int (d : Int)), none] [3]).set 3 (some (D.int ((0 : Nat) : Int))) = [some (.ref l), some (.str ls), some (.int d), some (.int ((0 : Nat) : Int))] from rfl, turn q1]
    simp only [Option.bind_some]
    rw [show (wipeE [some (D.ref l), some (D.str ls), some (D.int (d : Int)), none] [3]).set 3 (some (D.int ((1 : Nat) : Int))) = [some (.ref l), some (.str ls), some (.int d), some (.int ((1 : Nat) : Int))] from rfl, turn q2]
    rfl
end
end GB

/-! rules that are drawn: sums, factors, rules -/
namespace GB
open VI
section
variable {P : Pg} {n l k : Nat} {h : Hh}
def bTurnS : SL := (.cons (.asg (.nm 3) (.bin .add (.bin .add (.var 3) (.call 33 (.cons (.var 0) (.cons (.lst (.cons (.cst (.str [43])) (.cons (.cst (.str [45])) .nil))) .nil)))) (.call 35 (.cons (.var 0) (.cons (.var 1) (.cons (.var 2) .nil)))))) .nil)
theorem l_sum (Z : Ds P) {ls : List Nat} {d f : Nat} (hd : lF d ≤ 10000) (F : TP P ls d f) (hf : 2 ≤ f) : ∀ {xs : List D} {e : Su} {h : Hh} {k : Nat} {x4 : Option D}, xs.length ≤ 2 → e.ok ls d = true → 1 ≤ e.tx.length → e.tx.length + xs.length * (2 * lF d + 2) ≤ 90000 → Pot h l k → k + xs.length * (2 + 2 * cF d) ≤ 900000 →
    ∃ (e' : Su) (x4' : Option D) (h' : Hh), forLoop (.nm 4) (exs P (run P (n + f)) bTurnS) xs [some (.ref l), some (.str ls), some (.int d), some (.str e.tx), x4] h = some (.nx [some (.ref l), some (.str ls), some (.int d), some (.str e'.tx), x4'] h') ∧ e'.ok ls d = true ∧ 1 ≤ e'.tx.length ∧ e'.tx.length ≤ e.tx.length + xs.length * (2 * lF d + 2) ∧ DR h l (k + xs.length * (2 + 2 * cF d)) h'
  | [], e, h, k, x4, _, ok, h1, _, p, _ => ⟨e, x4, h, rfl, ok, h1, by simp, by simpa using DR.rfl p⟩
  | x :: xs, e, h, k, x4, hx, ok, h1, h2, p, hk => by
    have hx' : xs.length + 1 ≤ 2 := by simpa using hx
    have hk' : k + (xs.length + 1) * (2 + 2 * cF d) ≤ 900000 := by simpa using hk
    rw [Nat.add_mul, Nat.one_mul] at hk'
    have h2' : e.tx.length + (xs.length + 1) * (2 * lF d + 2) ≤ 90000 := by simpa using h2
    rw [Nat.add_mul, Nat.one_mul] at h2'
    obtain ⟨y, g1, my, q1, d1⟩ := t_of (n := n + f - 2) Z p (by omega) (xs := [.str [43], .str [45]]) (by decide) (by decide)
    rw [show n + f - 2 + 2 = n + f by omega] at q1
    obtain ⟨c, hc, ec⟩ : ∃ c : Nat, (c = 43 ∨ c = 45) ∧ y = .str [c] := by
      simp only [List.mem_cons, List.not_mem_nil, or_false] at my
      rcases my with rfl | rfl
      · exact ⟨43, .inl rfl, rfl⟩
      · exact ⟨45, .inr rfl, rfl⟩
    subst ec
    obtain ⟨t, g2, tok, t1, t2, q2, d2⟩ := F g1 l (k + 1) n d1.pot (by omega)
    have nok : (Su.op c e t).ok ls d = true := by
      simp only [Su.ok, ok, tok, Bool.and_true]
      rcases hc with rfl | rfl <;> rfl
    have nl : (Su.op c e t).tx.length = e.tx.length + 1 + t.tx.length := by simp [Su.tx]; omega
    obtain ⟨e', x4', h', lp, a1, a2, a3, a4⟩ := l_sum Z hd F hf (xs := xs) (e := .op c e t) (h := g2) (k := k + 1 + (1 + 2 * cF d)) (x4 := some x) (by omega) nok (by omega) (by omega) d2.pot (by omega)
    refine ⟨e', x4', h', ?_, a1, a2, ?_, ?_⟩
    · have s1 : ex P (run P (n + f)) (.asg (.nm 3) (.bin .add (.bin .add (.var 3) (.call 33 (.cons (.var 0) (.cons (.lst (.cons (.cst (.str [43])) (.cons (.cst (.str [45])) .nil))) .nil)))) (.call 35 (.cons (.var 0) (.cons (.var 1) (.cons (.var 2) .nil)))))) [some (.ref l), some (.str ls), some (.int d), some (.str e.tx), some x] h = some (.nx [some (.ref l), some (.str ls), some (.int d), some (.str (Su.op c e t).tx), some x] g2) := by
        refine x_asg (x := .str (Su.op c e t).tx) (e_bin (e_bin (e_var rfl) (e_call (es_cons (e_var rfl) (es_cons (e_lst (es_cons E_cst (es_cons E_cst es_nil))) es_nil)) q1) (o_addS ?_)) (e_call (es_cons (e_var rfl) (es_cons (e_var rfl) (es_cons (e_var rfl) es_nil))) q2) ((o_addS ?_).trans ?_)) rfl
        · unfold lim; simp only [List.length_cons, List.length_nil]; omega
        · rw [List.length_append]; unfold lim; simp only [List.length_cons, List.length_nil]; omega
        · simp [Su.tx]
      rw [for_nx (δ1 := [some (.ref l), some (.str ls), some (.int d), some (.str e.tx), some x]) (δ2 := [some (.ref l), some (.str ls), some (.int d), some (.str (Su.op c e t).tx), some x]) (h2 := g2) rfl, lp]
      unfold bTurnS
      rw [Xs_cons, s1, Option.bind_some, thnO_nx, Xs_nil]
    · rw [nl] at a3
      rw [List.length_cons, Nat.add_mul, Nat.one_mul]
      omega
    · refine (d1.trans (d2.trans a4)).mono ?_
      rw [List.length_cons, Nat.add_mul, Nat.one_mul]
      omega
theorem t_sum (Z : Ds P) {ls : List Nat} {d f : Nat} (hd : lF d ≤ 10000) (F : TP P ls d f) (hf : 2 ≤ f) : TS P ls d (f + 1) := fun h l k n p hk => by
  obtain ⟨t, g1, tok, t1, t2, q1, d1⟩ := F h l k n p (by omega)
  obtain ⟨r, g2, q2, r1, d2⟩ := t_take (n := n + f - 1) Z d1.pot (by omega) (u := 3) (by decide) (by decide)
  rw [show n + f - 1 + 1 = n + f by omega] at q2
  have hr : r ≤ 2 := by omega
  have cm : r * (2 + 2 * cF d) ≤ 2 * (2 + 2 * cF d) := Nat.mul_le_mul_right _ hr
  have lm : r * (2 * lF d + 2) ≤ 2 * (2 * lF d + 2) := Nat.mul_le_mul_right _ hr
  obtain ⟨e', x4', h', lp, a1, a2, a3, a4⟩ := l_sum (n := n) Z hd F hf (xs := rangeL 0 (r : Int)) (e := .one t) (h := g2) (k := k + (1 + 2 * cF d) + 1) (x4 := none) (by rw [rangeL_len]; exact hr) (by simpa [Su.ok] using tok) (by simpa [Su.tx] using t1) (by simp only [Su.tx, rangeL_len]; omega) d2.pot (by rw [rangeL_len]; omega)
  rw [rangeL_len] at a3 a4
  have s1 : ex P (run P (n + f)) (.asg (.nm 3) (.call 35 (.cons (.var 0) (.cons (.var 1) (.cons (.var 2) .nil))))) [some (.ref l), some (.str ls), some (.int d), none, none] h = some (.nx [some (.ref l), some (.str ls), some (.int d), some (.str t.tx), none] g1) := x_asg (e_call (es_cons (e_var rfl) (es_cons (e_var rfl) (es_cons (e_var rfl) es_nil))) q1) rfl
  have fl : ex P (run P (n + f)) (.for (.nm 4) (.range1 (.call 32 (.cons (.var 0) (.cons (.cst (.int 3)) .nil)))) bTurnS) [some (.ref l), some (.str ls), some (.int d), some (.str t.tx), none] g1 = some (.nx [some (.ref l), some (.str ls), some (.int d), some (.str e'.tx), x4'] h') := x_for (i_rng1 (e_call (es_cons (e_var rfl) (es_cons E_cst es_nil)) q2) (within_nat (by omega))) lp
  have dr : DR h l (k + (3 + 3 * (1 + 2 * cF d))) h' := (d1.trans (d2.trans a4)).mono (by omega)
  refine ⟨e', h', a1, a2, ?_, ?_, dr⟩
  · simp only [Su.tx] at a3; omega
  · have st : exs P (run P (n + f)) bSum [some (.ref l), some (.str ls), some (.int d), none, none] h = some (.rt (.str e'.tx) h') := by
      unfold bSum
      have fl' := fl
      unfold bTurnS at fl'
      rw [Xs_cons, s1, Option.bind_some, thnO_nx, Xs_cons, fl', Option.bind_some, thnO_nx, Xs_cons, X_ret, E_var]
      rfl
    refine (run_go (n := n + f) (ds := [.ref l, .str ls, .int d]) (h := h) Z.sum rfl).trans ?_
    show (exs P (run P (n + f)) bSum [some (.ref l), some (.str ls), some (.int d), none, none] h).bind (endO .clo h.length) = _
    rw [st]
    exact back_same dr.len
/-- a factor's two first ways -/
theorem t_fac {ls : List Nat} {d f : Nat} (Z : Ds P) (h1 : 1 ≤ ls.length) (h2 : ls.length ≤ 4) (hf : 2 ≤ f) (hl : 3 ≤ lF d) (hc : 2 ≤ cF d)
    (S : d = 0 ∨ ∃ d', d = d' + 1 ∧ TS P ls d' f ∧ lF d' ≤ 10000) : TF P ls d (f + 1) := fun h l k n p hk => by
  obtain ⟨r, g1, q1, r1, d1⟩ := t_take (n := n + f - 1) Z p (by omega) (u := 5) (by decide) (by decide)
  rw [show n + f - 1 + 1 = n + f by omega] at q1
  have s1 : ex P (run P (n + f)) (.asg (.nm 3) (.call 32 (.cons (.var 0) (.cons (.cst (.int 5)) .nil)))) [some (.ref l), some (.str ls), some (.int d), none] h = some (.nx [some (.ref l), some (.str ls), some (.int d), some (.int r)] g1) := x_asg (e_call (es_cons (e_var rfl) (es_cons E_cst es_nil)) q1) rfl
  have fin : ∀ (t : Fa) (g : Hh), t.ok ls d = true → 1 ≤ t.tx.length → t.tx.length ≤ lF d → DR h l (k + cF d) g → exs P (run P (n + f)) bFac [some (.ref l), some (.str ls), some (.int d), none] h = some (.rt (.str t.tx) g) → ∃ (t : Fa) (h' : Hh), t.ok ls d = true ∧ 1 ≤ t.tx.length ∧ t.tx.length ≤ lF d ∧ run P (n + (f + 1)) 34 [.ref l, .str ls, .int d] h = some (.str t.tx, h') ∧ DR h l (k + cF d) h' := fun t g ok a b dr st => by
    refine ⟨t, g, ok, a, b, ?_, dr⟩
    refine (run_go (n := n + f) (ds := [.ref l, .str ls, .int d]) (h := h) Z.fac rfl).trans ?_
    show (exs P (run P (n + f)) bFac [some (.ref l), some (.str ls), some (.int d), none] h).bind (endO .clo h.length) = _
    rw [st]
    exact back_same dr.len
  have t1 : ev P (run P (n + f)) (.cmp .lt (.var 3) (.cst (.int 2))) [some (.ref l), some (.str ls), some (.int d), some (.int r)] g1 = some (.bl (decide ((r : Int) < 2)), g1) := e_cmp (e_var rfl) E_cst o_lt
  by_cases w1 : (r : Int) < 2
  · rw [decide_eq_true w1] at t1
    obtain ⟨y, g2, my, q2, d2⟩ := t_of (n := n + f - 2) Z d1.pot (by omega) (xs := nums.map D.str) (by decide) (by decide)
    rw [show n + f - 2 + 2 = n + f by omega] at q2
    obtain ⟨w, mw, rfl⟩ := List.mem_map.mp my
    obtain ⟨o1, o2⟩ := nums_ok w mw
    have o3 : 1 ≤ w.length := by
      unfold okNum at o1
      simp only [Bool.and_eq_true, decide_eq_true_eq] at o1
      exact o1.1.1.1
    refine fin (.num w) g2 (by cases d <;> simpa [Fa.ok] using o1) o3 (Nat.le_trans o2 hl) ((d1.trans d2).mono (by omega)) ?_
    unfold bFac
    rw [Xs_cons, s1, Option.bind_some, thnO_nx, Xs_cons, X_ite, t1, Option.bind_some, chO_t, Xs_cons, X_ret, e_call (es_cons (e_var rfl) (es_cons (e_lst (es_cons E_cst (es_cons E_cst (es_cons E_cst (es_cons E_cst (es_cons E_cst (es_cons E_cst (es_cons E_cst (es_cons E_cst es_nil))))))))) es_nil)) q2]
    rfl
  · rw [decide_eq_false w1] at t1
    have t2 : ev P (run P (n + f)) (.cmp .lt (.var 3) (.cst (.int 4))) [some (.ref l), some (.str ls), some (.int d), some (.int r)] g1 = some (.bl (decide ((r : Int) < 4)), g1) := e_cmp (e_var rfl) E_cst o_lt
    have t3 : ev P (run P (n + f)) (.cmp .eq (.var 2) (.cst (.int 0))) [some (.ref l), some (.str ls), some (.int d), some (.int r)] g1 = some (.bl ((d : Int) == 0), g1) := e_cmp (e_var rfl) E_cst o_eq
    have letter : ev P (run P (n + f)) (.orV (.cmp .lt (.var 3) (.cst (.int 4))) (.cmp .eq (.var 2) (.cst (.int 0)))) [some (.ref l), some (.str ls), some (.int d), some (.int r)] g1 = some (.bl true, g1) → ∃ (t : Fa) (h' : Hh), t.ok ls d = true ∧ 1 ≤ t.tx.length ∧ t.tx.length ≤ lF d ∧ run P (n + (f + 1)) 34 [.ref l, .str ls, .int d] h = some (.str t.tx, h') ∧ DR h l (k + cF d) h' := fun t4 => by
      obtain ⟨c, g2, mc, q2, d2⟩ := t_ofS (n := n + f - 2) Z d1.pot (by omega) (s := ls) h1 (by omega)
      rw [show n + f - 2 + 2 = n + f by omega] at q2
      refine fin (.ltr c) g2 (by cases d <;> simpa [Fa.ok] using mc) (by simp [Fa.tx]) (by simp only [Fa.tx, List.length_singleton]; omega) ((d1.trans d2).mono (by omega)) ?_
      unfold bFac
      rw [Xs_cons, s1, Option.bind_some, thnO_nx, Xs_cons, X_ite, t1, Option.bind_some, chO_f, Xs_nil, Option.bind_some, thnO_nx, Xs_cons, X_ite, t4, Option.bind_some, chO_t, Xs_cons, X_ret, e_call (es_cons (e_var rfl) (es_cons (e_var rfl) es_nil)) q2]
      rfl
    by_cases w2 : (r : Int) < 4
    · rw [decide_eq_true w2] at t2
      exact letter (e_orT t2)
    · rw [decide_eq_false w2] at t2
      rcases S with rfl | ⟨d', rfl, F, hd'⟩
      · exact letter ((e_orF t2).trans t3)
      · have t3' : ev P (run P (n + f)) (.cmp .eq (.var 2) (.cst (.int 0))) [some (.ref l), some (.str ls), some (.int ((d' + 1 : Nat) : Int)), some (.int r)] g1 = some (.bl false, g1) := by
          rw [t3, show ((((d' + 1 : Nat) : Int)) == 0) = false by rw [beq_eq_false_iff_ne]; omega]
        have lk : lF (d' + 1) = 3 * (2 * lF d' + 1) + 4 := rfl
        have ck : cF (d' + 1) = 2 + (3 + 3 * (1 + 2 * cF d')) := rfl
        obtain ⟨e, g2, eok, e1, e2, q2, d2⟩ := F g1 l (k + 1) n d1.pot (by omega)
        refine fin (.par e) g2 (by simpa [Fa.ok] using eok) (by simp [Fa.tx]) (by simp only [Fa.tx, List.length_cons, List.length_append, List.length_nil]; omega) ((d1.trans d2).mono (by omega)) ?_
        have sb : ev P (run P (n + f)) (.bin .sub (.var 2) (.cst (.int 1))) [some (.ref l), some (.str ls), some (.int ((d' + 1 : Nat) : Int)), some (.int r)] g1 = some (.int d', g1) := by
          refine (e_bin (e_var rfl) E_cst o_sub).trans ?_
          rw [show ((((d' + 1 : Nat) : Int)) - 1) = (d' : Int) by omega]
        have v : ev P (run P (n + f)) (.bin .add (.bin .add (.cst (.str [40])) (.call 36 (.cons (.var 0) (.cons (.var 1) (.cons (.bin .sub (.var 2) (.cst (.int 1))) .nil))))) (.cst (.str [41]))) [some (.ref l), some (.str ls), some (.int ((d' + 1 : Nat) : Int)), some (.int r)] g1 = some (.str (Fa.par e).tx, g2) := by
          refine e_bin (e_bin E_cst (e_call (es_cons (e_var rfl) (es_cons (e_var rfl) (es_cons sb es_nil))) q2) (o_addS ?_)) E_cst ((o_addS ?_).trans ?_)
          · unfold lim; simp only [List.length_cons, List.length_nil]; omega
          · rw [List.length_append]; unfold lim; simp only [List.length_cons, List.length_nil]; omega
          · simp [Fa.tx]
        unfold bFac
        rw [Xs_cons, s1, Option.bind_some, thnO_nx, Xs_cons, X_ite, t1, Option.bind_some, chO_f, Xs_nil, Option.bind_some, thnO_nx, Xs_cons, X_ite, (e_orF t2).trans t3', Option.bind_some, chO_f, Xs_nil, Option.bind_some, thnO_nx, Xs_cons, X_ret, v]
        rfl
/-- a sum, three deep at most -/
theorem t_sums (Z : Ds P) {ls : List Nat} (h1 : 1 ≤ ls.length) (h2 : ls.length ≤ 4) : TS P ls 0 5 ∧ TS P ls 1 8 ∧ TS P ls 2 11 ∧ TS P ls 3 14 := by
  have f0 : TF P ls 0 3 := t_fac (f := 2) Z h1 h2 (by decide) (by decide) (by decide) (.inl rfl)
  have s0 : TS P ls 0 5 := t_sum (f := 4) Z (by decide) (t_prod Z (by decide) f0 (by decide)) (by decide)
  have f1 : TF P ls 1 6 := t_fac (f := 5) Z h1 h2 (by decide) (by decide) (by decide) (.inr ⟨0, rfl, s0, by decide⟩)
  have s1 : TS P ls 1 8 := t_sum (f := 7) Z (by decide) (t_prod Z (by decide) f1 (by decide)) (by decide)
  have f2 : TF P ls 2 9 := t_fac (f := 8) Z h1 h2 (by decide) (by decide) (by decide) (.inr ⟨1, rfl, s1, by decide⟩)
  have s2 : TS P ls 2 11 := t_sum (f := 10) Z (by decide) (t_prod Z (by decide) f2 (by decide)) (by decide)
  have f3 : TF P ls 3 12 := t_fac (f := 11) Z h1 h2 (by decide) (by decide) (by decide) (.inr ⟨2, rfl, s2, by decide⟩)
  have s3 : TS P ls 3 14 := t_sum (f := 13) Z (by decide) (t_prod Z (by decide) f3 (by decide)) (by decide)
  exact ⟨s0, s1, s2, s3⟩
end
end GB

/-! drawn rules and names -/
namespace GB
open VI
section
variable {P : Pg} {n l k : Nat} {h : Hh}
theorem sabc {m : Nat} (hm : m ≤ 3) : slF h (.str [115, 97, 98, 99]) none (some (1 + (m : Int))) = some (.str (letters m)) := by
  have : m = 0 ∨ m = 1 ∨ m = 2 ∨ m = 3 := by omega
  rcases this with rfl | rfl | rfl | rfl <;> rfl
theorem letters_len {m : Nat} (hm : m ≤ 3) : (letters m).length = m + 1 := by
  have : m = 0 ∨ m = 1 ∨ m = 2 ∨ m = 3 := by omega
  rcases this with rfl | rfl | rfl | rfl <;> rfl
theorem okLs_letters {m : Nat} (hm : m ≤ 3) : okLs (letters m) := by
  have : m = 0 ∨ m = 1 ∨ m = 2 ∨ m = 3 := by omega
  rcases this with rfl | rfl | rfl | rfl <;> (intro c hc; simp [letters] at hc)
  · subst hc; decide
  · rcases hc with rfl | rfl <;> decide
  · rcases hc with rfl | rfl | rfl <;> decide
  · rcases hc with rfl | rfl | rfl | rfl <;> decide
def cS (d : Nat) : Nat := 3 + 3 * (1 + 2 * cF d)
/-- _law_rule -/
theorem t_rule (Z : Ds P) {m d f : Nat} (hm : m ≤ 3) (S : TS P (letters m) d f) (hd : lF d ≤ 10000) (hf : 2 ≤ f) (p : Pot h l k) (hk : k + (cS d + 2) ≤ 900000) :
    ∃ (e : Su) (h' : Hh), e.ok (letters m) d = true ∧ 1 ≤ e.tx.length ∧ e.tx.length ≤ 40 ∧ run P (n + (f + 1)) 37 [.ref l, .int m, .int d] h = some (.str e.tx, h') ∧ DR h l (k + (cS d + 2)) h' := by
  obtain ⟨e, g1, eok, e1, e2, q1, d1⟩ := S h l k n p (by unfold cS at hk; omega)
  have ck : cS d = 3 + 3 * (1 + 2 * cF d) := rfl
  have s1 : ex P (run P (n + f)) (.asg (.nm 3) (.slH (.cst (.str [115, 97, 98, 99])) (.bin .add (.cst (.int 1)) (.var 1)))) [some (.ref l), some (.int m), some (.int d), none, none] h = some (.nx [some (.ref l), some (.int m), some (.int d), some (.str (letters m)), none] h) := by
    refine x_asg (x := .str (letters m)) ?_ rfl
    rw [E_slH, E_cst, Option.bind_some, E_bin, E_cst, Option.bind_some, E_var]
    simp only [look, List.getElem?_cons_zero, List.getElem?_cons_succ, Option.getD_some, Option.map_some, Option.bind_some, o_add]
    rw [sabc hm]; rfl
  have s2 : ex P (run P (n + f)) (.asg (.nm 4) (.call 36 (.cons (.var 0) (.cons (.var 3) (.cons (.var 2) .nil))))) [some (.ref l), some (.int m), some (.int d), some (.str (letters m)), none] h = some (.nx [some (.ref l), some (.int m), some (.int d), some (.str (letters m)), some (.str e.tx)] g1) := x_asg (e_call (es_cons (e_var rfl) (es_cons (e_var rfl) (es_cons (e_var rfl) es_nil))) q1) rfl
  have ln : biF g1 .len [.str e.tx] = some (.int e.tx.length) := if_pos (by unfold lim; omega)
  have t1 : ev P (run P (n + f)) (.cmp .lt (.bi .len (.cons (.var 4) .nil)) (.cst (.int 41))) [some (.ref l), some (.int m), some (.int d), some (.str (letters m)), some (.str e.tx)] g1 = some (.bl (decide ((e.tx.length : Int) < 41)), g1) := e_cmp (e_bi (es_cons (e_var rfl) es_nil) ln) E_cst o_lt
  have fin : ∀ (t : Su) (g : Hh), t.ok (letters m) d = true → 1 ≤ t.tx.length → t.tx.length ≤ 40 → DR h l (k + (cS d + 2)) g → exs P (run P (n + f)) bRule [some (.ref l), some (.int m), some (.int d), none, none] h = some (.rt (.str t.tx) g) → ∃ (e : Su) (h' : Hh), e.ok (letters m) d = true ∧ 1 ≤ e.tx.length ∧ e.tx.length ≤ 40 ∧ run P (n + (f + 1)) 37 [.ref l, .int m, .int d] h = some (.str e.tx, h') ∧ DR h l (k + (cS d + 2)) h' := fun t g ok a b dr st => by
    refine ⟨t, g, ok, a, b, ?_, dr⟩
    refine (run_go (n := n + f) (ds := [.ref l, .int m, .int d]) (h := h) Z.rule rfl).trans ?_
    show (exs P (run P (n + f)) bRule [some (.ref l), some (.int m), some (.int d), none, none] h).bind (endO .clo h.length) = _
    rw [st]
    exact back_same dr.len
  by_cases w : e.tx.length < 41
  · rw [decide_eq_true (by omega)] at t1
    refine fin e g1 eok e1 (by omega) (d1.mono (by omega)) ?_
    unfold bRule
    rw [Xs_cons, s1, Option.bind_some, thnO_nx, Xs_cons, s2, Option.bind_some, thnO_nx, Xs_cons, X_ite, t1, Option.bind_some, chO_t, Xs_cons, X_ret, E_var]
    rfl
  · rw [decide_eq_false (by omega)] at t1
    have ll := letters_len hm
    obtain ⟨c1, g2, mc1, q2, d2⟩ := t_ofS (n := n + f - 2) Z d1.pot (by omega) (s := letters m) (by omega) (by omega)
    rw [show n + f - 2 + 2 = n + f by omega] at q2
    obtain ⟨c2, g3, mc2, q3, d3⟩ := t_ofS (n := n + f - 2) Z d2.pot (by omega) (s := letters m) (by omega) (by omega)
    rw [show n + f - 2 + 2 = n + f by omega] at q3
    have v : ev P (run P (n + f)) (.bin .add (.bin .add (.bin .add (.cst (.str [115, 42])) (.call 33 (.cons (.var 0) (.cons (.var 3) .nil)))) (.cst (.str [43]))) (.call 33 (.cons (.var 0) (.cons (.var 3) .nil)))) [some (.ref l), some (.int m), some (.int d), some (.str (letters m)), some (.str e.tx)] g1 = some (.str [115, 42, c1, 43, c2], g3) := by
      have sm : ∀ j : Nat, j ≤ 10 → j ≤ lim := fun j hj => by unfold lim; omega
      exact e_bin (e_bin (e_bin E_cst (e_call (es_cons (e_var rfl) (es_cons (e_var rfl) es_nil)) q2) (o_addS (sm _ (by simp)))) E_cst (o_addS (sm _ (by simp)))) (e_call (es_cons (e_var rfl) (es_cons (e_var rfl) es_nil)) q3) (o_addS (sm _ (by simp)))
    have m0 : 115 ∈ letters m := by unfold letters; simp
    refine fin (.op 43 (.one (.mul (.one (.ltr 115)) (.ltr c1))) (.one (.ltr c2))) g3 ?_ (by simp [Su.tx, Pd.tx, Fa.tx]) (by simp [Su.tx, Pd.tx, Fa.tx]) ((d1.trans (d2.trans d3)).mono (by omega)) ?_
    · cases d <;> simp [Su.ok, Pd.ok, Fa.ok, m0, mc1, mc2]
    · unfold bRule
      rw [Xs_cons, s1, Option.bind_some, thnO_nx, Xs_cons, s2, Option.bind_some, thnO_nx, Xs_cons, X_ite, t1, Option.bind_some, chO_f, Xs_nil, Option.bind_some, thnO_nx, Xs_cons, X_ret, v]
      rfl
end
end GB

/-! drawn names -/
namespace GB
open VI
def nameOf (stem : List Nat) (i a k : Nat) : List Nat := stem.take i ++ [97 + (a + 7 * k) % 26] ++ stem.drop i
theorem az_at : ∀ p : Nat, p < 26 → (az.getD p 0 = 97 + p ∧ az.contains (97 + p) = true) := by decide
theorem az_len : az.length = 26 := rfl
theorem name_ok {stem : List Nat} (hs : stem.all (fun c => az.contains c) = true) (hl : stem.length ≤ 7) {i a k : Nat} : isName (nameOf stem i a k) := by
  have h1 : (a + 7 * k) % 26 < 26 := Nat.mod_lt _ (by decide)
  have ln : (nameOf stem i a k).length = stem.length + 1 := by
    unfold nameOf
    simp only [List.length_append, List.length_take, List.length_drop, List.length_singleton]
    omega
  refine ⟨by omega, by omega, ?_⟩
  unfold nameOf
  rw [List.all_append, List.all_append, Bool.and_eq_true, Bool.and_eq_true]
  refine ⟨⟨List.all_eq_true.mpr fun c hc => List.all_eq_true.mp hs c (List.mem_of_mem_take hc), ?_⟩, List.all_eq_true.mpr fun c hc => List.all_eq_true.mp hs c (List.mem_of_mem_drop hc)⟩
  simpa using (az_at _ h1).2
theorem name_inj {stem : List Nat} {i a k j : Nat} (hk : k < 13) (hj : j < 13) (e : nameOf stem i a k = nameOf stem i a j) : k = j := by
  unfold nameOf at e
  have e := List.append_cancel_right e
  have e := List.append_cancel_left e
  have e : 97 + (a + 7 * k) % 26 = 97 + (a + 7 * j) % 26 := by simpa using e
  omega
def namesOf (stem : List Nat) (i a m : Nat) : List (List Nat) := (List.range m).map (nameOf stem i a)
theorem names_nd {stem : List Nat} {i a m : Nat} (hm : m ≤ 12) : (namesOf stem i a m).Nodup := by
  unfold namesOf
  rw [List.nodup_iff_pairwise_ne, List.pairwise_map]
  refine List.Pairwise.imp_of_mem ?_ List.nodup_range
  intro x y hx hy ne e
  exact ne (name_inj (by have := List.mem_range.mp hx; omega) (by have := List.mem_range.mp hy; omega) e)
section
variable {P : Pg} {n l k : Nat} {h : Hh}
theorem sl_sH {s : List Nat} {i : Nat} (hs : s.length ≤ 1000) : slF h (.str s) none (some (i : Int)) = some (.str (s.take i)) := by
  have c : cutI s.length (i : Int) = min i s.length := by unfold cutI; rw [if_neg (by omega), Int.toNat_natCast]
  show (if s.length ≤ lim then some (D.str (cutL s 0 (cutI s.length (i : Int)))) else none) = _
  rw [if_pos (Nat.le_of_lt (lim_big hs)), c]
  unfold cutL
  rw [List.drop_zero, Nat.sub_zero]
  by_cases q : i ≤ s.length
  · rw [Nat.min_eq_left q]
  · rw [Nat.min_eq_right (by omega), List.take_of_length_le (Nat.le_refl _), List.take_of_length_le (by omega)]
theorem sl_sT {s : List Nat} {i : Nat} (hs : s.length ≤ 1000) : slF h (.str s) (some (i : Int)) none = some (.str (s.drop i)) := by
  have c : cutI s.length (i : Int) = min i s.length := by unfold cutI; rw [if_neg (by omega), Int.toNat_natCast]
  show (if s.length ≤ lim then some (D.str (cutL s (cutI s.length (i : Int)) s.length)) else none) = _
  rw [if_pos (Nat.le_of_lt (lim_big hs)), c]
  unfold cutL
  by_cases q : i ≤ s.length
  · rw [Nat.min_eq_left q, List.take_of_length_le (by simp)]
  · rw [Nat.min_eq_right (by omega), List.drop_of_length_le (Nat.le_refl _), List.drop_of_length_le (by omega), List.take_nil]
theorem x_asgT2 {Φ : Fn} {δ : Ev} {h1 : Hh} {i j : Nat} {a b : E} {x y : D} (e : evs P Φ (.cons a (.cons b .nil)) δ h = some ([x, y], h1)) : ex P Φ (.asgT [.nm i, .nm j] (.cons a (.cons b .nil))) δ h = some (.nx ((δ.set i (some x)).set j (some y)) h1) := by
  rw [X_asgT, e, Option.bind_some]; rfl
theorem txts : ∀ ts : List (List Nat), textsOf (ts.map D.str) = some ts
  | [] => rfl
  | a :: ts => by simp [textsOf, txts ts]
theorem join_one : ∀ cs : List Nat, joinL [] (cs.map fun c => [c]) = cs
  | [] => rfl
  | [c] => rfl
  | c :: d :: cs => by
    have := join_one (d :: cs)
    simp only [List.map_cons, joinL, List.append_nil] at this ⊢
    rw [this]; rfl
/-- one sign after the other is drawn -/
theorem l_stem (Z : Ds P) {δ : Ev} (d0 : ∀ x : D, look (δ.set 8 (some x)) 0 = some (.ref l)) (d3 : ∀ x : D, look (δ.set 8 (some x)) 3 = some (.str az)) : ∀ {xs : List D} {h : Hh} {k : Nat}, Pot h l k → k + xs.length ≤ 900000 →
    ∃ (cs : List Nat) (h' : Hh), cs.length = xs.length ∧ cs.all (fun c => az.contains c) = true ∧ lcLoop (.nm 8) (ev P (run P (n + 2)) (.cst (.bl true))) (ev P (run P (n + 2)) (.call 33 (.cons (.var 0) (.cons (.var 3) .nil)))) δ xs h = some (cs.map fun c => D.str [c], h') ∧ DR h l (k + xs.length) h'
  | [], h, k, p, _ => ⟨[], h, rfl, rfl, rfl, by simpa using DR.rfl p⟩
  | x :: xs, h, k, p, hk => by
    have hk' : k + (xs.length + 1) ≤ 900000 := by simpa using hk
    obtain ⟨c, g, mc, q, d⟩ := t_ofS (n := n) Z p (by omega) (s := az) (by decide) (by decide)
    obtain ⟨cs, h', a1, a2, a3, a4⟩ := l_stem Z d0 d3 (xs := xs) (h := g) (k := k + 1) d.pot (by omega)
    refine ⟨c :: cs, h', by simp [a1], ?_, ?_, (d.trans a4).mono (by simp; omega)⟩
    · rw [List.all_cons, a2, Bool.and_true]; simpa using mc
    · have e : ev P (run P (n + 2)) (.call 33 (.cons (.var 0) (.cons (.var 3) .nil))) (δ.set 8 (some x)) h = some (.str [c], g) := e_call (es_cons (e_var (d0 x)) (es_cons (e_var (d3 x)) es_nil)) q
      simp only [lcLoop, put, Option.bind_some, E_cst, e, a3, Option.map_some, List.map_cons]
/-- _law_names -/
theorem t_names (Z : Ds P) (hN : P.defs[38]? = some ⟨.glob, none, 9, 2, .clo, bNames⟩) {m : Nat} (hm : m ≤ 12) (p : Pot h l k) (hk : k + 20 ≤ 900000) :
    ∃ (stem : List Nat) (i a : Nat) (h' : Hh), stem.length ≤ 7 ∧ stem.all (fun c => az.contains c) = true ∧ run P (n + 3) 38 [.ref l, .int m] h = some (.lst ((namesOf stem i a m).map D.str), h') ∧ DR h l (k + 20) h' := by
  obtain ⟨r, g1, q1, r1, d1⟩ := t_take (n := n + 1) Z p (by omega) (u := 8) (by decide) (by decide)
  have s1 : ex P (run P (n + 2)) (.asgT [(.nm 3), (.nm 4)] (.cons (.cst (.str az)) (.cons (.call 32 (.cons (.var 0) (.cons (.cst (.int 8)) .nil))) .nil))) [some (.ref l), some (.int m), none, none, none, none, none, none, none] h = some (.nx [some (.ref l), some (.int m), none, some (.str az), some (.int r), none, none, none, none] g1) := x_asgT2 (es_cons E_cst (es_cons (e_call (es_cons (e_var rfl) (es_cons E_cst es_nil)) q1) es_nil))
  obtain ⟨cs, g2, c1, c2, c3, d2⟩ := l_stem (n := n) (δ := [some (.ref l), some (.int m), none, some (.str az), some (.int r), none, none, none, none]) Z (fun _ => rfl) (fun _ => rfl) (xs := rangeL 0 (r : Int)) (h := g1) (k := k + 1) d1.pot (by rw [rangeL_len]; omega)
  rw [rangeL_len] at c1 d2
  have lc : ev P (run P (n + 2)) (.lc (.nm 8) [8] (.range1 (.var 4)) (.cst (.bl true)) (.call 33 (.cons (.var 0) (.cons (.var 3) .nil)))) [some (.ref l), some (.int m), none, some (.str az), some (.int r), none, none, none, none] g1 = some (.lst ((cs.map fun c => [c]).map D.str), g2) := by
    refine (e_lc (i_rng1 (e_var rfl) (within_nat (by omega))) (lim_big (by rw [rangeL_len]; omega)) c3).trans ?_
    rw [List.map_map]; rfl
  have s2 : ex P (run P (n + 2)) (.asg (.nm 2) (.join (.cst (.str [])) (.lc (.nm 8) [8] (.range1 (.var 4)) (.cst (.bl true)) (.call 33 (.cons (.var 0) (.cons (.var 3) .nil)))))) [some (.ref l), some (.int m), none, some (.str az), some (.int r), none, none, none, none] g1 = some (.nx [some (.ref l), some (.int m), some (.str cs), some (.str az), some (.int r), none, none, none, none] g2) := by
    refine x_asg (x := .str cs) ?_ rfl
    rw [E_join, E_cst, Option.bind_some, lc, Option.bind_some]
    simp only [ltOf, lstOf, Option.bind_some, txts]
    have sm : ∀ cs : List Nat, ((cs.map fun c => [c]).map List.length).sum = cs.length := fun cs => by
      induction cs with
      | nil => rfl
      | cons c cs ih =>
        simp only [List.map_cons, List.sum_cons, List.length_cons, List.length_nil, ih]
        omega
    rw [if_pos ⟨by decide, by rw [List.length_map]; omega, by rw [sm]; unfold lim; omega⟩, join_one]
  obtain ⟨i, g3, q3, r3, d3⟩ := t_take (n := n + 1) Z d2.pot (by omega) (u := (r : Int) + 1) (by omega) (by omega)
  obtain ⟨a, g4, q4, r4, d4⟩ := t_take (n := n + 1) Z d3.pot (by omega) (u := 26) (by decide) (by decide)
  have s3 : ex P (run P (n + 2)) (.asgT [(.nm 5), (.nm 6)] (.cons (.call 32 (.cons (.var 0) (.cons (.bin .add (.var 4) (.cst (.int 1))) .nil))) (.cons (.call 32 (.cons (.var 0) (.cons (.cst (.int 26)) .nil))) .nil))) [some (.ref l), some (.int m), some (.str cs), some (.str az), some (.int r), none, none, none, none] g2 = some (.nx [some (.ref l), some (.int m), some (.str cs), some (.str az), some (.int r), some (.int i), some (.int a), none, none] g4) := x_asgT2 (es_cons (e_call (es_cons (e_var rfl) (es_cons (e_bin (e_var rfl) E_cst o_add) es_nil)) q3) (es_cons (e_call (es_cons (e_var rfl) (es_cons E_cst es_nil)) q4) es_nil))
  have l4 : ev P (run P (n + 2)) (.lc (.nm 7) [7] (.range1 (.var 1)) (.cst (.bl true)) (.bin .add (.bin .add (.slH (.var 2) (.var 5)) (.idx (.var 3) (.bin .mod (.bi .int (.cons (.bin .add (.var 6) (.bin .mul (.cst (.int 7)) (.var 7))) .nil)) (.cst (.int 26))))) (.slT (.var 2) (.var 5)))) [some (.ref l), some (.int m), some (.str cs), some (.str az), some (.int r), some (.int i), some (.int a), none, none] g4 = some (.lst ((namesOf cs i a m).map D.str), g4) := by
    refine (e_lc (xs := (List.range m).map fun (j : Nat) => D.int (j : Int)) (h1 := g4) ((i_rng1 (e_var rfl) (within_nat (by omega))).trans (by rw [rng_nat])) (lim_big (by rw [List.length_map, List.length_range]; omega)) (lc_fun (fun (j : Nat) => D.int (j : Int)) (fun j => D.str (nameOf cs i a j)) fun j _ => ⟨[some (.ref l), some (.int m), some (.str cs), some (.str az), some (.int r), some (.int i), some (.int a), some (.int j), none], rfl, E_cst, ?_⟩)).trans (by rw [namesOf, List.map_map]; rfl)
    have h26 : (a + 7 * j) % 26 < 26 := Nat.mod_lt _ (by decide)
    have x1 : ev P (run P (n + 2)) (.slH (.var 2) (.var 5)) [some (.ref l), some (.int m), some (.str cs), some (.str az), some (.int r), some (.int i), some (.int a), some (.int j), none] g4 = some (.str (cs.take i), g4) := by
      rw [E_slH, E_var, show look [some (D.ref l), some (.int m), some (.str cs), some (.str az), some (.int r), some (.int i), some (.int a), some (.int j), none] 2 = some (.str cs) from rfl, Option.map_some, Option.bind_some, E_var, show look [some (D.ref l), some (.int m), some (.str cs), some (.str az), some (.int r), some (.int i), some (.int a), some (.int j), none] 5 = some (.int i) from rfl, Option.map_some, Option.bind_some]
      show ((slF g4 (.str cs) none (some (i : Int))).map fun d => (d, g4)) = _
      rw [sl_sH (by omega)]; rfl
    have x2 : ev P (run P (n + 2)) (.slT (.var 2) (.var 5)) [some (.ref l), some (.int m), some (.str cs), some (.str az), some (.int r), some (.int i), some (.int a), some (.int j), none] g4 = some (.str (cs.drop i), g4) := by
      rw [E_slT, E_var, show look [some (D.ref l), some (.int m), some (.str cs), some (.str az), some (.int r), some (.int i), some (.int a), some (.int j), none] 2 = some (.str cs) from rfl, Option.map_some, Option.bind_some, E_var, show look [some (D.ref l), some (.int m), some (.str cs), some (.str az), some (.int r), some (.int i), some (.int a), some (.int j), none] 5 = some (.int i) from rfl, Option.map_some, Option.bind_some]
      show ((slF g4 (.str cs) (some (i : Int)) none).map fun d => (d, g4)) = _
      rw [sl_sT (by omega)]; rfl
    have x3 : ev P (run P (n + 2)) (.idx (.var 3) (.bin .mod (.bi .int (.cons (.bin .add (.var 6) (.bin .mul (.cst (.int 7)) (.var 7))) .nil)) (.cst (.int 26)))) [some (.ref l), some (.int m), some (.str cs), some (.str az), some (.int r), some (.int i), some (.int a), some (.int j), none] g4 = some (.str [97 + (a + 7 * j) % 26], g4) := by
      refine e_idx (e_var rfl) (e_bin (e_bi (es_cons (e_bin (e_var rfl) (e_bin E_cst (e_var rfl) (o_mulL (by decide))) o_add) es_nil) bi_int) E_cst (o_mod (by decide))) ?_
      rw [show (((a : Int) + 7 * (j : Int)) % 26) = (((a + 7 * j) % 26 : Nat) : Int) by omega, idx_str (by decide) h26, (az_at _ h26).1]
    refine e_bin (e_bin x1 x3 (o_addS ?_)) x2 (o_addS ?_)
    · unfold lim; simp only [List.length_take, List.length_singleton]; omega
    · unfold lim; simp only [List.length_append, List.length_take, List.length_drop, List.length_singleton]; omega
  have dr : DR h l (k + 20) g4 := (d1.trans (d2.trans (d3.trans d4))).mono (by omega)
  refine ⟨cs, i, a, g4, by omega, c2, ?_, dr⟩
  have st : exs P (run P (n + 2)) bNames [some (.ref l), some (.int m), none, none, none, none, none, none, none] h = some (.rt (.lst ((namesOf cs i a m).map D.str)) g4) := by
    unfold bNames
    have s1' := s1
    unfold az at s1'
    rw [Xs_cons, s1', Option.bind_some, thnO_nx, Xs_cons]
    have s2' := s2
    unfold az at s2'
    rw [s2', Option.bind_some, thnO_nx, Xs_cons]
    have s3' := s3
    unfold az at s3'
    rw [s3', Option.bind_some, thnO_nx, Xs_cons, X_ret]
    have l4' := l4
    unfold az at l4'
    rw [l4']
    rfl
  refine (run_go (n := n + 2) (ds := [.ref l, .int m]) (h := h) hN rfl).trans ?_
  show (exs P (run P (n + 2)) bNames [some (.ref l), some (.int m), none, none, none, none, none, none, none] h).bind (endO .clo h.length) = _
  rw [st]
  exact back_same dr.len
end
end GB

/-! drawn tasks -/
namespace GB
open VI
section
variable {P : Pg} {n l k : Nat} {h t : Hh}
theorem Pot.app (p : Pot h l k) : Pot (h ++ t) l k := by
  obtain ⟨a, b, c, e, r⟩ := p.ex
  exact ⟨a, b, c, by rw [List.getElem?_append_left (List.getElem?_eq_some_iff.mp e).1]; exact e, r⟩
theorem Pot.lt (p : Pot h l k) : l < h.length := by
  obtain ⟨a, b, c, e, r⟩ := p.ex
  exact (List.getElem?_eq_some_iff.mp e).1
theorem DR.un {k' : Nat} {H : Hh} (hl : l < h.length) (a : DR (h ++ t) l k' H) : ∃ h1, H = h1 ++ t ∧ DR h l k' h1 := by
  obtain ⟨⟨o, e, lo⟩, p⟩ := a
  have e2 : H = h.set l o ++ t := by rw [e, List.set_append_left _ _ hl]
  refine ⟨h.set l o, e2, ⟨⟨o, _root_.rfl, lo⟩, ?_⟩⟩
  obtain ⟨x, y, z, q, r⟩ := p.ex
  rw [e2, List.getElem?_append_left (by rw [List.length_set]; exact hl)] at q
  exact ⟨x, y, z, q, r⟩
theorem two0 {B : Hh} {a b : Ob} : (B ++ [a, b])[B.length]? = some a := by simp
theorem two1 {B : Hh} {a b : Ob} : (B ++ [a, b])[B.length + 1]? = some b := by simp
theorem set0 {B : Hh} {a b c : Ob} : (B ++ [a, b]).set B.length c = B ++ [c, b] := by simp
theorem set1 {B : Hh} {a b c : Ob} : (B ++ [a, b]).set (B.length + 1) c = B ++ [a, c] := by simp
theorem bi_lenR {e : Nat} {xs : List D} (q : h[e]? = some (.lst xs)) : biF h .len [.ref e] = some (.int xs.length) := by
  show (match lstOf h (.ref e) with
    | some xs => some (D.int xs.length)
    | none => match dctOf h (.ref e) with
      | some (ks, vs) => if ks.all isKey then some (D.int ks.length) else none
      | none => none) = _
  simp only [lstOf, q]
theorem bi_tupR {e : Nat} {xs : List D} (q : h[e]? = some (.lst xs)) : biF h .tuple [.ref e] = some (.tup xs) := by
  show (lstOf h (.ref e)).map D.tup = _
  simp only [lstOf, q]; rfl
theorem erase_map {α β : Type} (f : α → β) : ∀ (xs : List α) (i : Nat), (xs.eraseIdx i).map f = (xs.map f).eraseIdx i
  | [], _ => rfl
  | x :: xs, 0 => rfl
  | x :: xs, i + 1 => by simp [erase_map f xs i]
theorem erase_perm {α : Type} : ∀ {xs : List α} {i : Nat} (h : i < xs.length), (xs[i] :: xs.eraseIdx i).Perm xs
  | x :: xs, 0, _ => .refl _
  | x :: xs, i + 1, h => by
    have ih := erase_perm (xs := xs) (i := i) (by simpa using h)
    have a : ((x :: xs)[i + 1] :: (x :: xs).eraseIdx (i + 1)) = xs[i]'(by simpa using h) :: x :: xs.eraseIdx i := rfl
    rw [a]
    exact (List.Perm.swap _ _ _).trans (ih.cons x)
def bPop : SL := (.cons (.expr (.app (.var 11) (.popA (.var 10) (.call 32 (.cons (.var 0) (.cons (.bi .len (.cons (.var 10) .nil)) .nil)))))) .nil)
/-- feeds are popped out of the earlier names -/
theorem l_pop (Z : Ds P) {x1 x2 x3 x4 x5 x6 x7 x9 : Option D} : ∀ {its : List D} {B : Hh} {xs ys : List (List Nat)} {k : Nat} {x8 : Option D}, its.length ≤ xs.length → xs.length ≤ 100 → ys.length + its.length ≤ 100 → Pot B l k → k + its.length ≤ 900000 →
    ∃ (xs' ys' : List (List Nat)) (B' : Hh) (x8' : Option D), forLoop (.nm 8) (exs P (run P (n + 1)) bPop) its [some (.ref l), x1, x2, x3, x4, x5, x6, x7, x8, x9, some (.ref B.length), some (.ref (B.length + 1))] (B ++ [.lst (xs.map D.str), .lst (ys.map D.str)]) = some (.nx [some (.ref l), x1, x2, x3, x4, x5, x6, x7, x8', x9, some (.ref B.length), some (.ref (B.length + 1))] (B' ++ [.lst (xs'.map D.str), .lst (ys'.map D.str)])) ∧ DR B l (k + its.length) B' ∧ ys'.length = ys.length + its.length ∧ (xs' ++ ys').Perm (xs ++ ys)
  | [], B, xs, ys, k, x8, _, _, _, p, _ => ⟨xs, ys, B, x8, rfl, by simpa using DR.rfl p, rfl, .refl _⟩
  | it :: its, B, xs, ys, k, x8, h1, h2, h3, p, hk => by
    have h1' : its.length + 1 ≤ xs.length := by simpa using h1
    have h3' : ys.length + (its.length + 1) ≤ 100 := by simpa using h3
    have hk' : k + (its.length + 1) ≤ 900000 := by simpa using hk
    obtain ⟨r, H1, q, r1, d⟩ := t_take (n := n) Z (p.app (t := [.lst (xs.map D.str), .lst (ys.map D.str)])) (by omega) (u := ((xs.map D.str).length : Int)) (by rw [List.length_map]; omega) (by rw [List.length_map]; omega)
    obtain ⟨B1, rfl, d1⟩ := d.un p.lt
    have bl := d1.len
    have hr : r < xs.length := by rw [List.length_map] at r1; omega
    have ey : (xs.map D.str)[r]? = some (.str xs[r]) := by rw [List.getElem?_map, List.getElem?_eq_getElem hr]; rfl
    have ee : (xs.map D.str).eraseIdx r = (xs.eraseIdx r).map D.str := (erase_map _ _ _).symm
    let δ : Ev := [some (.ref l), x1, x2, x3, x4, x5, x6, x7, some it, x9, some (.ref B.length), some (.ref (B.length + 1))]
    have pop : ev P (run P (n + 1)) (.popA (.var 10) (.call 32 (.cons (.var 0) (.cons (.bi .len (.cons (.var 10) .nil)) .nil)))) [some (.ref l), x1, x2, x3, x4, x5, x6, x7, some it, x9, some (.ref B.length), some (.ref (B.length + 1))] (B ++ [.lst (xs.map D.str), .lst (ys.map D.str)]) = some (.str xs[r], B1 ++ [.lst ((xs.eraseIdx r).map D.str), .lst (ys.map D.str)]) := by
      have c1 : ev P (run P (n + 1)) (.call 32 (.cons (.var 0) (.cons (.bi .len (.cons (.var 10) .nil)) .nil))) [some (.ref l), x1, x2, x3, x4, x5, x6, x7, some it, x9, some (.ref B.length), some (.ref (B.length + 1))] (B ++ [.lst (xs.map D.str), .lst (ys.map D.str)]) = some (.int r, B1 ++ [.lst (xs.map D.str), .lst (ys.map D.str)]) := e_call (es_cons (e_var rfl) (es_cons (e_bi (es_cons (e_var rfl) es_nil) (bi_lenR two0)) es_nil)) q
      have t0 : (B1 ++ [Ob.lst (xs.map D.str), Ob.lst (ys.map D.str)])[B.length]? = some (.lst (xs.map D.str)) := by rw [← bl]; exact two0
      have s0 : (B1 ++ [Ob.lst (xs.map D.str), Ob.lst (ys.map D.str)]).set B.length (.lst ((xs.map D.str).eraseIdx r)) = B1 ++ [.lst ((xs.eraseIdx r).map D.str), .lst (ys.map D.str)] := by rw [← bl, set0, ee]
      have w := within_nat (show r ≤ 100000 by omega)
      have ev10 : ev P (run P (n + 1)) (.var 10) [some (.ref l), x1, x2, x3, x4, x5, x6, x7, some it, x9, some (.ref B.length), some (.ref (B.length + 1))] (B ++ [.lst (xs.map D.str), .lst (ys.map D.str)]) = some (.ref B.length, B ++ [.lst (xs.map D.str), .lst (ys.map D.str)]) := e_var rfl
      rw [E_popA, ev10, Option.bind_some, c1, Option.bind_some]
      simp only [two0, t0]
      rw [if_pos ⟨by omega, w⟩, Int.toNat_natCast, ey, Option.map_some, s0]
    have ap : ev P (run P (n + 1)) (.app (.var 11) (.popA (.var 10) (.call 32 (.cons (.var 0) (.cons (.bi .len (.cons (.var 10) .nil)) .nil))))) [some (.ref l), x1, x2, x3, x4, x5, x6, x7, some it, x9, some (.ref B.length), some (.ref (B.length + 1))] (B ++ [.lst (xs.map D.str), .lst (ys.map D.str)]) = some (.non, B1 ++ [.lst ((xs.eraseIdx r).map D.str), .lst ((ys ++ [xs[r]]).map D.str)]) := by
      have t1 : (B1 ++ [Ob.lst ((xs.eraseIdx r).map D.str), Ob.lst (ys.map D.str)])[B.length + 1]? = some (.lst (ys.map D.str)) := by rw [← bl]; exact two1
      refine (e_app (e_var rfl) pop two1 t1 (lim_big (by rw [List.length_map]; omega))).trans ?_
      rw [← bl, set1, List.map_append]; rfl
    have el : (xs.eraseIdx r).length + 1 = xs.length := by rw [List.length_eraseIdx_of_lt hr]; omega
    obtain ⟨xs', ys', B', x8', lp, d2, yl, pm⟩ := l_pop Z (x1 := x1) (x2 := x2) (x3 := x3) (x4 := x4) (x5 := x5) (x6 := x6) (x7 := x7) (x9 := x9) (its := its) (B := B1) (xs := xs.eraseIdx r) (ys := ys ++ [xs[r]]) (k := k + 1) (x8 := some it) (by omega) (by omega) (by simp; omega) d1.pot (by omega)
    rw [bl] at lp
    refine ⟨xs', ys', B', x8', ?_, (d1.trans d2).mono (by simp; omega), by rw [yl]; simp; omega, pm.trans ?_⟩
    · rw [for_nx (δ1 := [some (.ref l), x1, x2, x3, x4, x5, x6, x7, some it, x9, some (.ref B.length), some (.ref (B.length + 1))]) (δ2 := [some (.ref l), x1, x2, x3, x4, x5, x6, x7, some it, x9, some (.ref B.length), some (.ref (B.length + 1))]) (h2 := B1 ++ [.lst ((xs.eraseIdx r).map D.str), .lst ((ys ++ [xs[r]]).map D.str)]) rfl, lp]
      unfold bPop
      rw [Xs_cons, X_expr, ap, Option.map_some, Option.bind_some, thnO_nx, Xs_nil]
    · have a1 : (xs.eraseIdx r ++ (ys ++ [xs[r]])).Perm (xs[r] :: (xs.eraseIdx r ++ ys)) := by
        rw [← List.append_assoc]
        exact List.perm_append_singleton _ _
      have a2 : (xs[r] :: xs.eraseIdx r).Perm xs := erase_perm hr
      exact a1.trans (a2.append_right ys)
end
end GB

/-! drawn tasks: one turn -/
namespace GB
open VI
section
variable {P : Pg} {n l k : Nat}
def bTask : SL := (.cons (.par 10 11 (.mslH (.var 4) (.var 6)) (.mlst .nil))
   (.cons (.for (.nm 8) (.range1 (.bi .min (.cons (.var 6) (.cons (.call 32 (.cons (.var 0) (.cons (.cst (.int 4)) .nil))) .nil)))) bPop)
   (.cons (.asg (.nm 9) (.bin .add (.cst (.int 1)) (.call 32 (.cons (.var 0) (.cons (.var 2) .nil)))))
   (.cons (.expr (.app (.var 5) (.tup (.cons (.var 7) (.cons (.bin .add (.cst (.int 2)) (.call 32 (.cons (.var 0) (.cons (.cst (.int 4)) .nil)))) (.cons (.bi .tuple (.cons (.var 11) .nil)) (.cons (.var 9) (.cons (.call 37 (.cons (.var 0) (.cons (.bi .len (.cons (.var 11) .nil)) (.cons (.var 3) .nil)))) .nil))))))))
   .nil))))
/-- a task as it is drawn -/
structure Tdr (ns : List (List Nat)) (j most d : Nat) (t : Tk) (e : Su) : Prop where
  nm : ns[j]? = some t.nm
  lo : 2 ≤ t.size
  hi : t.size ≤ 5
  few : t.feeds.length ≤ 3
  fed : ∀ f ∈ t.feeds, f ∈ ns.take j
  nd : t.feeds.Nodup
  r1 : 1 ≤ t.rounds
  r2 : t.rounds ≤ most
  tx : t.rule = e.tx
  ok : e.ok (letters t.feeds.length) d = true
  e1 : 1 ≤ e.tx.length
  e2 : e.tx.length ≤ 40
theorem turn_task (Z : Ds P) {ns : List (List Nat)} {j most d f F : Nat} {nm : List Nat} {ds : List D} {B : Hh} (hn : ns[j]? = some nm) (nd : ns.Nodup) (nl : ns.length ≤ 20) (hm : 1 ≤ most) (hm2 : most ≤ 60) (S : ∀ m, m ≤ 3 → TS P (letters m) d f) (hd : lF d ≤ 10000) (hf : 2 ≤ f) (hF : B[F]? = some (.lst ds)) (ne : F ≠ l) (dl : ds.length ≤ 100) (p : Pot B l k) (hk : k + (cS d + 20) ≤ 900000) {x1 x8 x9 x10 x11 : Option D} :
    ∃ (t : Tk) (e : Su) (B' : Hh) (o1 o2 : Ob) (y8 y9 : Option D), Tdr ns j most d t e ∧ t.nm = nm ∧ DR B l (k + (cS d + 20)) B' ∧ (∀ m, Ob.low m o1 = true) ∧ (∀ m, Ob.low m o2 = true) ∧
      exs P (run P (n + (f + 1))) bTask [some (.ref l), x1, some (.int most), some (.int d), some (.lst (ns.map D.str)), some (.ref F), some (.int j), some (.str nm), x8, x9, x10, x11] B
        = some (.nx [some (.ref l), x1, some (.int most), some (.int d), some (.lst (ns.map D.str)), some (.ref F), some (.int j), some (.str nm), y8, y9, some (.ref B.length), some (.ref (B.length + 1))] (B'.set F (.lst (ds ++ [t.d])) ++ [o1, o2])) := by
  have jl : j < ns.length := (List.getElem?_eq_some_iff.mp hn).1
  have sl : ev P (run P (n + (f + 1))) (.mslH (.var 4) (.var 6)) [some (.ref l), x1, some (.int most), some (.int d), some (.lst (ns.map D.str)), some (.ref F), some (.int j), some (.str nm), x8, x9, x10, x11] B = some (.ref B.length, B ++ [.lst ((ns.take j).map D.str)]) := by
    have e1 : ev P (run P (n + (f + 1))) (.var 4) [some (.ref l), x1, some (.int most), some (.int d), some (.lst (ns.map D.str)), some (.ref F), some (.int j), some (.str nm), x8, x9, x10, x11] B = some (.lst (ns.map D.str), B) := e_var rfl
    have e2 : ev P (run P (n + (f + 1))) (.var 6) [some (.ref l), x1, some (.int most), some (.int d), some (.lst (ns.map D.str)), some (.ref F), some (.int j), some (.str nm), x8, x9, x10, x11] B = some (.int j, B) := e_var rfl
    have c : cutI (ns.map D.str).length (j : Int) = j := by
      unfold cutI
      rw [if_neg (by omega), Int.toNat_natCast, List.length_map, Nat.min_eq_left (by omega)]
    rw [E_mslH, e1, Option.bind_some, e2, Option.bind_some]
    simp only [lstOf, Option.map_some, c]
    unfold cutL
    rw [List.drop_zero, Nat.sub_zero, List.map_take]
  have s1 : ex P (run P (n + (f + 1))) (.par 10 11 (.mslH (.var 4) (.var 6)) (.mlst .nil)) [some (.ref l), x1, some (.int most), some (.int d), some (.lst (ns.map D.str)), some (.ref F), some (.int j), some (.str nm), x8, x9, x10, x11] B = some (.nx [some (.ref l), x1, some (.int most), some (.int d), some (.lst (ns.map D.str)), some (.ref F), some (.int j), some (.str nm), x8, x9, some (.ref B.length), some (.ref (B.length + 1))] (B ++ [.lst ((ns.take j).map D.str), .lst (([] : List (List Nat)).map D.str)])) := by
    refine (x_par sl (e_mlst es_nil)).trans ?_
    rw [List.length_append, List.append_assoc]; rfl
  obtain ⟨r, H1, q1, r1, d0⟩ := t_take (n := n + f) Z (p.app (t := [.lst ((ns.take j).map D.str), .lst (([] : List (List Nat)).map D.str)])) (by omega) (u := 4) (by decide) (by decide)
  obtain ⟨B1, rfl, d1⟩ := d0.un p.lt
  have b1 := d1.len
  obtain ⟨c, hc⟩ : ∃ c : Nat, c = if r < j then r else j := ⟨_, rfl⟩
  have cj : c ≤ j := by rw [hc]; split <;> omega
  have c3 : c ≤ 3 := by rw [hc]; split <;> omega
  have tl : (ns.take j).length = j := by rw [List.length_take]; omega
  obtain ⟨xs', ys', B2, y8, lp, d2, yl, pm⟩ := l_pop (n := n + f) Z (x1 := x1) (x2 := some (.int most)) (x3 := some (.int d)) (x4 := some (.lst (ns.map D.str))) (x5 := some (.ref F)) (x6 := some (.int j)) (x7 := some (.str nm)) (x9 := x9) (its := rangeL 0 (c : Int)) (B := B1) (xs := ns.take j) (ys := []) (k := k + 1) (x8 := x8) (by rw [rangeL_len, tl]; exact cj) (by omega) (by rw [rangeL_len]; simp; omega) d1.pot (by rw [rangeL_len]; omega)
  rw [rangeL_len] at d2 yl
  rw [b1] at lp
  have yl3 : ys'.length ≤ 3 := by rw [yl]; simpa using c3
  have s2 : ex P (run P (n + (f + 1))) (.for (.nm 8) (.range1 (.bi .min (.cons (.var 6) (.cons (.call 32 (.cons (.var 0) (.cons (.cst (.int 4)) .nil))) .nil)))) bPop) [some (.ref l), x1, some (.int most), some (.int d), some (.lst (ns.map D.str)), some (.ref F), some (.int j), some (.str nm), x8, x9, some (.ref B.length), some (.ref (B.length + 1))] (B ++ [.lst ((ns.take j).map D.str), .lst (([] : List (List Nat)).map D.str)]) = some (.nx [some (.ref l), x1, some (.int most), some (.int d), some (.lst (ns.map D.str)), some (.ref F), some (.int j), some (.str nm), y8, x9, some (.ref B.length), some (.ref (B.length + 1))] (B2 ++ [.lst (xs'.map D.str), .lst (ys'.map D.str)])) := by
    refine x_for (h1 := B1 ++ [.lst ((ns.take j).map D.str), .lst (([] : List (List Nat)).map D.str)]) (i_rng1 (n := (c : Int)) (e_bi (es_cons (e_var rfl) (es_cons (e_call (es_cons (e_var rfl) (es_cons E_cst es_nil)) q1) es_nil)) (bi_min.trans ?_)) (within_nat (by omega))) lp
    congr 2
    rw [hc]
    split <;> split <;> omega
  have b2 := d2.len
  obtain ⟨r9, H3, q3, r3, d30⟩ := t_take (n := n + f) Z ((d1.trans d2).pot.app (t := [.lst (xs'.map D.str), .lst (ys'.map D.str)])) (by omega) (u := (most : Int)) (by omega) (by omega)
  obtain ⟨B3, rfl, d3⟩ := d30.un (d1.trans d2).pot.lt
  have b3 := d3.len
  have s3 : ex P (run P (n + (f + 1))) (.asg (.nm 9) (.bin .add (.cst (.int 1)) (.call 32 (.cons (.var 0) (.cons (.var 2) .nil))))) [some (.ref l), x1, some (.int most), some (.int d), some (.lst (ns.map D.str)), some (.ref F), some (.int j), some (.str nm), y8, x9, some (.ref B.length), some (.ref (B.length + 1))] (B2 ++ [.lst (xs'.map D.str), .lst (ys'.map D.str)]) = some (.nx [some (.ref l), x1, some (.int most), some (.int d), some (.lst (ns.map D.str)), some (.ref F), some (.int j), some (.str nm), y8, some (.int ((r9 + 1 : Nat) : Int)), some (.ref B.length), some (.ref (B.length + 1))] (B3 ++ [.lst (xs'.map D.str), .lst (ys'.map D.str)])) := by
    refine x_asg (x := .int ((r9 + 1 : Nat) : Int)) (e_bin E_cst (e_call (es_cons (e_var rfl) (es_cons (e_var rfl) es_nil)) q3) (o_add.trans ?_)) rfl
    rw [show ((1 : Int) + (r9 : Int)) = ((r9 + 1 : Nat) : Int) by omega]
  obtain ⟨r4, H4, q4, r5, d40⟩ := t_take (n := n + f) Z (d3.pot.app (t := [.lst (xs'.map D.str), .lst (ys'.map D.str)])) (by omega) (u := 4) (by decide) (by decide)
  obtain ⟨B4, rfl, d4⟩ := d40.un d3.pot.lt
  have b4 := d4.len
  obtain ⟨e, H5, eok, e1, e2, q5, d50⟩ := t_rule (n := n) Z yl3 (S _ yl3) hd hf (d4.pot.app (t := [.lst (xs'.map D.str), .lst (ys'.map D.str)])) (by omega)
  obtain ⟨B5, rfl, d5⟩ := d50.un d4.pot.lt
  have b5 := d5.len
  have b45 : B4.length = B.length := by omega
  have b55 : B5.length = B.length := by omega
  have nel : F < B.length := (List.getElem?_eq_some_iff.mp hF).1
  have dall : DR B l (k + (cS d + 20)) B5 := (d1.trans (d2.trans (d3.trans (d4.trans d5)))).mono (by omega)
  have fed : ∀ y ∈ ys', y ∈ ns.take j := fun y hy => by
    have := pm.subset (List.mem_append_right xs' hy)
    simpa using this
  have ndy : ys'.Nodup := by
    have a : (ns.take j ++ []).Nodup := by
      rw [List.append_nil]
      exact List.Nodup.sublist (List.take_sublist _ _) nd
    exact (List.nodup_append.mp (pm.nodup_iff.mpr a)).2.1
  refine ⟨⟨nm, r4 + 2, ys', r9 + 1, e.tx⟩, e, B5, .lst (xs'.map D.str), .lst (ys'.map D.str), y8, some (.int ((r9 + 1 : Nat) : Int)), ⟨hn, by show 2 ≤ r4 + 2; omega, by show r4 + 2 ≤ 5; omega, yl3, fed, ndy, by show 1 ≤ r9 + 1; omega, by show r9 + 1 ≤ most; omega, rfl, eok, e1, e2⟩, rfl, dall, fun m => lows_str _, fun m => lows_str _, ?_⟩
  have tp : ev P (run P (n + (f + 1))) (.tup (.cons (.var 7) (.cons (.bin .add (.cst (.int 2)) (.call 32 (.cons (.var 0) (.cons (.cst (.int 4)) .nil)))) (.cons (.bi .tuple (.cons (.var 11) .nil)) (.cons (.var 9) (.cons (.call 37 (.cons (.var 0) (.cons (.bi .len (.cons (.var 11) .nil)) (.cons (.var 3) .nil)))) .nil)))))) [some (.ref l), x1, some (.int most), some (.int d), some (.lst (ns.map D.str)), some (.ref F), some (.int j), some (.str nm), y8, some (.int ((r9 + 1 : Nat) : Int)), some (.ref B.length), some (.ref (B.length + 1))] (B3 ++ [.lst (xs'.map D.str), .lst (ys'.map D.str)]) = some ((⟨nm, r4 + 2, ys', r9 + 1, e.tx⟩ : Tk).d, B5 ++ [.lst (xs'.map D.str), .lst (ys'.map D.str)]) := by
    have i4 : (B4 ++ [Ob.lst (xs'.map D.str), Ob.lst (ys'.map D.str)])[B.length + 1]? = some (.lst (ys'.map D.str)) := by rw [← b45]; exact two1
    have v2 : ev P (run P (n + (f + 1))) (.bin .add (.cst (.int 2)) (.call 32 (.cons (.var 0) (.cons (.cst (.int 4)) .nil)))) [some (.ref l), x1, some (.int most), some (.int d), some (.lst (ns.map D.str)), some (.ref F), some (.int j), some (.str nm), y8, some (.int ((r9 + 1 : Nat) : Int)), some (.ref B.length), some (.ref (B.length + 1))] (B3 ++ [.lst (xs'.map D.str), .lst (ys'.map D.str)]) = some (.int ((r4 + 2 : Nat) : Int), B4 ++ [.lst (xs'.map D.str), .lst (ys'.map D.str)]) := by
      refine e_bin E_cst (e_call (es_cons (e_var rfl) (es_cons E_cst es_nil)) q4) (o_add.trans ?_)
      rw [show ((2 : Int) + (r4 : Int)) = ((r4 + 2 : Nat) : Int) by omega]
    have v5 : ev P (run P (n + (f + 1))) (.call 37 (.cons (.var 0) (.cons (.bi .len (.cons (.var 11) .nil)) (.cons (.var 3) .nil)))) [some (.ref l), x1, some (.int most), some (.int d), some (.lst (ns.map D.str)), some (.ref F), some (.int j), some (.str nm), y8, some (.int ((r9 + 1 : Nat) : Int)), some (.ref B.length), some (.ref (B.length + 1))] (B4 ++ [.lst (xs'.map D.str), .lst (ys'.map D.str)]) = some (.str e.tx, B5 ++ [.lst (xs'.map D.str), .lst (ys'.map D.str)]) := by
      refine e_call (es_cons (e_var rfl) (es_cons (e_bi (es_cons (e_var rfl) es_nil) (bi_lenR i4)) (es_cons (e_var rfl) es_nil))) ?_
      rw [List.length_map]
      exact q5
    exact e_tup (es_cons (e_var rfl) (es_cons v2 (es_cons (e_bi (es_cons (e_var rfl) es_nil) (bi_tupR i4)) (es_cons (e_var rfl) (es_cons v5 es_nil)))))
  have f3 : (B3 ++ [Ob.lst (xs'.map D.str), Ob.lst (ys'.map D.str)])[F]? = some (.lst ds) := by
    rw [List.getElem?_append_left (by omega), d3.other ne, d2.other ne, d1.other ne]; exact hF
  have f5 : (B5 ++ [Ob.lst (xs'.map D.str), Ob.lst (ys'.map D.str)])[F]? = some (.lst ds) := by
    rw [List.getElem?_append_left (by omega), dall.other ne]; exact hF
  have s4 := x_expr (e_app (a := .var 5) (P := P) (Φ := run P (n + (f + 1))) (δ := [some (.ref l), x1, some (.int most), some (.int d), some (.lst (ns.map D.str)), some (.ref F), some (.int j), some (.str nm), y8, some (.int ((r9 + 1 : Nat) : Int)), some (.ref B.length), some (.ref (B.length + 1))]) (h := B3 ++ [.lst (xs'.map D.str), .lst (ys'.map D.str)]) (e_var rfl) tp f3 f5 (lim_big (by omega)))
  rw [List.set_append_left _ _ (by omega)] at s4
  unfold bTask
  rw [Xs_cons, s1, Option.bind_some, thnO_nx, Xs_cons, s2, Option.bind_some, thnO_nx, Xs_cons, s3, Option.bind_some, thnO_nx, Xs_cons, s4, Option.bind_some, thnO_nx, Xs_nil]
end
end GB

/-! drawn tasks -/
namespace GB
open VI
section
variable {P : Pg} {n l k : Nat} {h : Hh}
theorem set_mid {g junk : Hh} {a b : Ob} : (g ++ a :: junk).set g.length b = g ++ b :: junk := by simp
theorem l_tasks (Z : Ds P) {ns : List (List Nat)} {most d f F : Nat} (nd : ns.Nodup) (nl : ns.length ≤ 20) (hm : 1 ≤ most) (hm2 : most ≤ 60) (S : ∀ m, m ≤ 3 → TS P (letters m) d f) (hd : lF d ≤ 10000) (hf : 2 ≤ f) (ne : F ≠ l) {x1 : Option D} :
    ∀ {rest pre : List (List Nat)} {dn : List Tk} {g junk : Hh} {k : Nat} {x6 x7 x8 x9 x10 x11 : Option D}, ns = pre ++ rest → dn.length = pre.length → g.length = F → Pot g l k → k + rest.length * (cS d + 20) ≤ 900000 →
    ∃ (ts : List Tk) (es : List Su) (g' junk' : Hh) (y6 y7 y8 y9 y10 y11 : Option D), forLoop (.tp [6, 7]) (exs P (run P (n + (f + 1))) bTask) (enumL pre.length (rest.map D.str)) [some (.ref l), x1, some (.int most), some (.int d), some (.lst (ns.map D.str)), some (.ref F), x6, x7, x8, x9, x10, x11] (g ++ .lst (dn.map Tk.d) :: junk)
        = some (.nx [some (.ref l), x1, some (.int most), some (.int d), some (.lst (ns.map D.str)), some (.ref F), y6, y7, y8, y9, y10, y11] (g' ++ .lst ((dn ++ ts).map Tk.d) :: junk')) ∧ DR g l (k + rest.length * (cS d + 20)) g' ∧ ts.length = rest.length ∧ es.length = ts.length ∧ ∀ i t e, ts[i]? = some t → es[i]? = some e → Tdr ns (pre.length + i) most d t e
  | [], pre, dn, g, junk, k, x6, x7, x8, x9, x10, x11, _, _, _, p, _ => ⟨[], [], g, junk, x6, x7, x8, x9, x10, x11, by simp [forLoop, enumL], by simpa using DR.rfl p, rfl, rfl, fun i t e h => by simp at h⟩
  | nm :: rest, pre, dn, g, junk, k, x6, x7, x8, x9, x10, x11, en, dl, gl, p, hk => by
    have hk' : k + (rest.length + 1) * (cS d + 20) ≤ 900000 := by simpa using hk
    rw [Nat.add_mul, Nat.one_mul] at hk'
    have hn : ns[pre.length]? = some nm := by rw [en]; simp
    have nl2 : pre.length ≤ 20 := by rw [en] at nl; simp at nl; omega
    have hF : (g ++ Ob.lst (dn.map Tk.d) :: junk)[F]? = some (.lst (dn.map Tk.d)) := by rw [← gl]; simp
    obtain ⟨t, e, B', o1, o2, y8, y9, td, tn, dr, _, _, q⟩ := turn_task (n := n) Z (k := k) hn nd nl hm hm2 S hd hf hF ne (by rw [List.length_map]; omega) (p.app (t := .lst (dn.map Tk.d) :: junk)) (by omega) (x1 := x1) (x8 := x8) (x9 := x9) (x10 := x10) (x11 := x11)
    obtain ⟨g1, rfl, d1⟩ := dr.un p.lt
    have g1l : g1.length = F := by rw [d1.len]; exact gl
    rw [show (g1 ++ Ob.lst (dn.map Tk.d) :: junk).set F (.lst (dn.map Tk.d ++ [t.d])) = g1 ++ .lst ((dn ++ [t]).map Tk.d) :: junk by rw [← g1l, set_mid, List.map_append]; rfl] at q
    rw [show (g1 ++ Ob.lst ((dn ++ [t]).map Tk.d) :: junk) ++ [o1, o2] = g1 ++ .lst ((dn ++ [t]).map Tk.d) :: (junk ++ [o1, o2]) by simp] at q
    obtain ⟨ts, es, g', junk', y6', y7', y8', y9', y10', y11', lp, d2, tl, el, al⟩ := l_tasks Z nd nl hm hm2 S hd hf ne (x1 := x1) (rest := rest) (pre := pre ++ [nm]) (dn := dn ++ [t]) (g := g1) (junk := junk ++ [o1, o2]) (k := k + (cS d + 20)) (x6 := some (.int pre.length)) (x7 := some (.str nm)) (x8 := y8) (x9 := y9) (x10 := some (.ref (g ++ Ob.lst (dn.map Tk.d) :: junk).length)) (x11 := some (.ref ((g ++ Ob.lst (dn.map Tk.d) :: junk).length + 1))) (by simp [en]) (by simp [dl]) g1l d1.pot (by omega)
    refine ⟨t :: ts, e :: es, g', junk', y6', y7', y8', y9', y10', y11', ?_, (d1.trans d2).mono (by rw [List.length_cons, Nat.add_mul, Nat.one_mul]; omega), by simp [tl], by simp [el], fun i u v h1 h2 => ?_⟩
    · rw [List.map_cons, enumL, for_nx (δ1 := [some (.ref l), x1, some (.int most), some (.int d), some (.lst (ns.map D.str)), some (.ref F), some (.int pre.length), some (.str nm), x8, x9, x10, x11]) rfl q]
      rw [List.length_append, List.length_singleton] at lp
      rw [lp]
      simp
    · cases i with
      | zero =>
        simp at h1 h2
        subst h1 h2
        exact td
      | succ i =>
        have := al i u v (by simpa using h1) (by simpa using h2)
        rw [List.length_append, List.length_singleton] at this
        rw [show pre.length + (i + 1) = pre.length + 1 + i by omega]
        exact this
/-- _law_tasks -/
theorem t_tasks (Z : Ds P) (hN : P.defs[38]? = some ⟨.glob, none, 9, 2, .clo, bNames⟩) (hT : P.defs[39]? = some ⟨.glob, none, 12, 4, .clo, bTasks⟩) {m most d f : Nat} (h12 : m ≤ 12) (hm : 1 ≤ most) (hm2 : most ≤ 60) (S : ∀ j, j ≤ 3 → TS P (letters j) d f) (hd : lF d ≤ 10000) (hf : 2 ≤ f) (c : Cl h) (p : Pot h l k) (hk : k + 20 + m * (cS d + 20) ≤ 900000) :
    ∃ (ns : List (List Nat)) (ts : List Tk) (es : List Su) (h' : Hh), ns.length = m ∧ ns.Nodup ∧ (∀ x ∈ ns, isName x) ∧ ts.length = m ∧ es.length = m ∧ (∀ i t e, ts[i]? = some t → es[i]? = some e → Tdr ns i most d t e) ∧ run P (n + (f + 2)) 39 [.ref l, .int m, .int most, .int d] h = some (.tup (ts.map Tk.d), h') ∧ DR h l (k + 20 + m * (cS d + 20)) h' := by
  obtain ⟨stem, i0, a0, g0, st1, st2, q0, d0⟩ := t_names (n := n + f - 2) Z hN h12 p (by omega)
  rw [show n + f - 2 + 3 = n + (f + 1) by omega] at q0
  have nsl : (namesOf stem i0 a0 m).length = m := by simp [namesOf]
  have c0 := d0.cl c
  obtain ⟨ns, ens⟩ : ∃ ns, ns = namesOf stem i0 a0 m := ⟨_, rfl⟩
  rw [← ens] at q0 nsl
  have nd : ns.Nodup := by rw [ens]; exact names_nd h12
  have ok : ∀ x ∈ ns, isName x := fun x hx => by
    rw [ens] at hx
    obtain ⟨j, _, rfl⟩ := List.mem_map.mp hx
    exact name_ok st2 st1
  have s1 : ex P (run P (n + (f + 1))) (.par 4 5 (.call 38 (.cons (.var 0) (.cons (.var 1) .nil))) (.mlst .nil)) [some (.ref l), some (.int m), some (.int most), some (.int d), none, none, none, none, none, none, none, none] h = some (.nx [some (.ref l), some (.int m), some (.int most), some (.int d), some (.lst (ns.map D.str)), some (.ref g0.length), none, none, none, none, none, none] (g0 ++ .lst (([] : List Tk).map Tk.d) :: [])) := x_par (e_call (es_cons (e_var rfl) (es_cons (e_var rfl) es_nil)) q0) (e_mlst es_nil)
  have ne : g0.length ≠ l := by have := d0.pot.lt; omega
  obtain ⟨ts, es, g', junk', y6, y7, y8, y9, y10, y11, lp, d1, tl, el, al⟩ := l_tasks (n := n) (F := g0.length) Z nd (by omega) hm hm2 S hd hf ne (x1 := some (.int m)) (rest := ns) (pre := []) (dn := []) (g := g0) (junk := []) (k := k + 20) (x6 := none) (x7 := none) (x8 := none) (x9 := none) (x10 := none) (x11 := none) rfl rfl rfl d0.pot (by rw [nsl]; exact hk)
  rw [nsl] at d1
  have dr := d0.trans d1
  have gl : g'.length = g0.length := d1.len
  have fl : ex P (run P (n + (f + 1))) (.for (.tp [6, 7]) (.enum (.var 4)) bTask) [some (.ref l), some (.int m), some (.int most), some (.int d), some (.lst (ns.map D.str)), some (.ref g0.length), none, none, none, none, none, none] (g0 ++ .lst (([] : List Tk).map Tk.d) :: []) = some (.nx [some (.ref l), some (.int m), some (.int most), some (.int d), some (.lst (ns.map D.str)), some (.ref g0.length), y6, y7, y8, y9, y10, y11] (g' ++ .lst (([] ++ ts).map Tk.d) :: junk')) := by
    refine x_for (xs := enumL 0 (ns.map D.str)) (h1 := g0 ++ .lst (([] : List Tk).map Tk.d) :: []) ?_ lp
    rw [I_enum, E_var]; rfl
  have rt : biF (g' ++ Ob.lst (([] ++ ts).map Tk.d) :: junk') .tuple [.ref g0.length] = some (.tup (ts.map Tk.d)) := bi_tupR (by rw [← gl]; simp)
  refine ⟨ns, ts, es, g', nsl, nd, ok, by omega, by omega, fun i t e h1 h2 => by simpa using al i t e h1 h2, ?_, dr⟩
  have st : exs P (run P (n + (f + 1))) bTasks [some (.ref l), some (.int m), some (.int most), some (.int d), none, none, none, none, none, none, none, none] h = some (.rt (.tup (ts.map Tk.d)) (g' ++ .lst (([] ++ ts).map Tk.d) :: junk')) := by
    unfold bTasks
    have fl' := fl
    unfold bTask bPop at fl'
    rw [Xs_cons, s1, Option.bind_some, thnO_nx, Xs_cons, fl', Option.bind_some, thnO_nx, Xs_cons, X_ret, e_bi (es_cons (e_var rfl) es_nil) rt]
    rfl
  refine (run_go (n := n + (f + 1)) (ds := [.ref l, .int m, .int most, .int d]) (h := h) hT rfl).trans ?_
  show (exs P (run P (n + (f + 1))) bTasks [some (.ref l), some (.int m), some (.int most), some (.int d), none, none, none, none, none, none, none, none] h).bind (endO .clo h.length) = _
  rw [st, Option.bind_some, endO_rt, ← dr.len]
  exact back_cut (dr.cl c) (fun j => lows_fr fr_tk ts)
end
mutual
theorem fa_up {ls : List Nat} : ∀ {t : Fa} {a b : Nat}, a ≤ b → t.ok ls a = true → t.ok ls b = true
  | .num _, a, b, _, h => by cases a <;> cases b <;> simpa [Fa.ok] using h
  | .ltr _, a, b, _, h => by cases a <;> cases b <;> simpa [Fa.ok] using h
  | .par e, 0, b, _, h => by simp [Fa.ok] at h
  | .par e, a + 1, 0, q, h => by omega
  | .par e, a + 1, b + 1, q, h => by
    have h : e.ok ls a = true := by simpa [Fa.ok] using h
    have := su_up (by omega : a ≤ b) h
    simpa [Fa.ok] using this
theorem pd_up {ls : List Nat} : ∀ {t : Pd} {a b : Nat}, a ≤ b → t.ok ls a = true → t.ok ls b = true
  | .one f, a, b, q, h => by
    have h : f.ok ls a = true := by simpa [Pd.ok] using h
    simpa [Pd.ok] using fa_up q h
  | .mul p f, a, b, q, h => by
    have h : p.ok ls a = true ∧ f.ok ls a = true := by simpa [Pd.ok] using h
    simp [Pd.ok, pd_up q h.1, fa_up q h.2]
theorem su_up {ls : List Nat} : ∀ {t : Su} {a b : Nat}, a ≤ b → t.ok ls a = true → t.ok ls b = true
  | .one p, a, b, q, h => by
    have h : p.ok ls a = true := by simpa [Su.ok] using h
    simpa [Su.ok] using pd_up q h
  | .op c e p, a, b, q, h => by
    simp only [Su.ok, Bool.and_eq_true] at h ⊢
    exact ⟨⟨h.1.1, su_up q h.1.2⟩, pd_up q h.2⟩
end
/-- drawn tasks are a graph -/
theorem drawn_gr {ns : List (List Nat)} {most d : Nat} (hd : d ≤ 6) (hm : most ≤ 60) (nd : ns.Nodup) (ok : ∀ x ∈ ns, isName x) : ∀ {ts : List Tk} {es : List Su} {j : Nat}, es.length = ts.length → (∀ i t e, ts[i]? = some t → es[i]? = some e → Tdr ns (j + i) most d t e) → GrOk (ns.take j) ts
  | [], _, _, _, _ => trivial
  | t :: ts, [], j, el, _ => by simp at el
  | t :: ts, e :: es, j, el, al => by
    have T := al 0 t e rfl rfl
    rw [Nat.add_zero] at T
    have tk : ns.take (j + 1) = ns.take j ++ [t.nm] := by
      rw [List.take_add_one, T.nm]; rfl
    refine ⟨⟨ok _ (List.mem_of_getElem? T.nm), fun q => ?_, T.lo, T.hi, T.few, T.fed, T.nd, T.r1, Nat.le_trans T.r2 hm, ?_, by rw [T.tx]; have := T.e2; omega⟩, ?_⟩
    · obtain ⟨i, hi, e⟩ := List.mem_iff_getElem.mp q
      rw [List.length_take] at hi
      rw [List.getElem_take] at e
      have h2 := (List.getElem?_eq_some_iff.mp T.nm)
      obtain ⟨jl, ej⟩ := h2
      have := (List.getElem_inj nd).mp (e.trans ej.symm)
      omega
    · have r := rule_su (okLs_letters T.few) (su_up (by omega) T.ok) T.e1 T.e2
      unfold tree
      rw [T.tx, r]
      cases e.tr <;> exact fun q => by cases q
    · rw [← tk]
      exact drawn_gr hd hm nd ok (by simpa using el) fun i u v h1 h2 => by
        have := al (i + 1) u v (by simpa using h1) (by simpa using h2)
        rw [show j + (i + 1) = j + 1 + i by omega] at this
        exact this
end GB

namespace W
open VI
/-- letters_of -/
def b0 : SL :=
  (.cons (.ret (.bin .add (.glo 0) (.slH (.glo 1) (.var 0))))
 .nil)
/-- RuleReader.__init__ -/
def b1 : SL :=
  (.cons (.asgF 0 (.var 0) 0 (.var 1))
 (.cons (.asgF 0 (.var 0) 1 (.var 2))
 (.cons (.asgF 0 (.var 0) 2 (.cst (.int 0)))
 (.cons (.asgF 0 (.var 0) 3 (.cst (.int 0)))
 (.cons (.asgF 0 (.var 0) 4 (.cst (.bl false)))
 .nil)))))
/-- RuleReader.comes -/
def b2 : SL :=
  (.cons (.ret (.andV (.cmp .lt (.fld 0 (.var 0) 2) (.bi .len (.cons (.fld 0 (.var 0) 0) .nil))) (.cmp .inn (.idx (.fld 0 (.var 0) 0) (.fld 0 (.var 0) 2)) (.var 1))))
 .nil)
/-- RuleReader.take -/
def b3 : SL :=
  (.cons (.augF 0 (.var 0) 2 .add (.cst (.int 1)))
 (.cons (.ret (.idx (.fld 0 (.var 0) 0) (.bin .sub (.fld 0 (.var 0) 2) (.cst (.int 1)))))
 .nil))
/-- RuleReader.fail -/
def b4 : SL :=
  (.cons (.asgF 0 (.var 0) 4 (.cst (.bl true)))
 (.cons (.ret (.glo 8))
 .nil))
/-- RuleReader.read_sum -/
def b5 : SL :=
  (.cons (.asg (.nm 1) (.meth 6 (.var 0) .nil))
 (.cons (.while (.meth 2 (.var 0) (.cons (.cst (.str [43, 45])) .nil))
  (.cons (.asg (.nm 2) (.meth 3 (.var 0) .nil))
   (.cons (.asg (.nm 1) (.tup (.cons (.var 2) (.cons (.var 1) (.cons (.meth 6 (.var 0) .nil) .nil)))))
   .nil)))
 (.cons (.ret (.var 1))
 .nil)))
/-- RuleReader.read_product -/
def b6 : SL :=
  (.cons (.asg (.nm 1) (.meth 7 (.var 0) .nil))
 (.cons (.while (.meth 2 (.var 0) (.cons (.cst (.str [42])) .nil))
  (.cons (.asg (.nm 2) (.meth 3 (.var 0) .nil))
   (.cons (.asg (.nm 1) (.tup (.cons (.var 2) (.cons (.var 1) (.cons (.meth 7 (.var 0) .nil) .nil)))))
   .nil)))
 (.cons (.ret (.var 1))
 .nil)))
/-- RuleReader.read_factor -/
def b7 : SL :=
  (.cons (.ite (.meth 2 (.var 0) (.cons (.glo 5) .nil))
  (.cons (.ret (.meth 8 (.var 0) .nil))
   .nil)
  .nil)
 (.cons (.ite (.meth 2 (.var 0) (.cons (.fld 0 (.var 0) 1) .nil))
  (.cons (.ret (.tup (.cons (.glo 7) (.cons (.meth 3 (.var 0) .nil) .nil))))
   .nil)
  .nil)
 (.cons (.ite (.orV (.notV (.meth 2 (.var 0) (.cons (.cst (.str [40])) .nil))) (.cmp .eq (.fld 0 (.var 0) 3) (.glo 3)))
  (.cons (.ret (.meth 4 (.var 0) .nil))
   .nil)
  .nil)
 (.cons (.expr (.meth 3 (.var 0) .nil))
 (.cons (.augF 0 (.var 0) 3 .add (.cst (.int 1)))
 (.cons (.asg (.nm 1) (.meth 5 (.var 0) .nil))
 (.cons (.augF 0 (.var 0) 3 .sub (.cst (.int 1)))
 (.cons (.ite (.notV (.meth 2 (.var 0) (.cons (.cst (.str [41])) .nil)))
  (.cons (.ret (.meth 4 (.var 0) .nil))
   .nil)
  .nil)
 (.cons (.expr (.meth 3 (.var 0) .nil))
 (.cons (.ret (.var 1))
 .nil))))))))))
/-- RuleReader.read_number -/
def b8 : SL :=
  (.cons (.asg (.nm 1) (.cst (.str [])))
 (.cons (.while (.meth 2 (.var 0) (.cons (.glo 5) .nil))
  (.cons (.asg (.nm 1) (.bin .add (.var 1) (.meth 3 (.var 0) .nil)))
   .nil))
 (.cons (.ite (.orV (.cmp .gt (.bi .len (.cons (.var 1) .nil)) (.glo 4)) (.andV (.cmp .eq (.idx (.var 1) (.cst (.int 0))) (.cst (.str [48]))) (.cmp .ne (.var 1) (.cst (.str [48])))))
  (.cons (.ret (.meth 4 (.var 0) .nil))
   .nil)
  .nil)
 (.cons (.ret (.tup (.cons (.glo 6) (.cons (.bi .int (.cons (.var 1) .nil)) .nil))))
 .nil))))
/-- read_rule -/
def b9 : SL :=
  (.cons (.ite (.orV (.notV (.isi (.var 0) .str)) (.notV (.chain .le .le (.cst (.int 1)) (.bi .len (.cons (.var 0) .nil)) (.glo 2))))
  (.cons (.ret (.cst .non))
   .nil)
  .nil)
 (.cons (.asg (.nm 2) (.make 1 (.cons (.var 0) (.cons (.var 1) .nil))))
 (.cons (.asg (.nm 3) (.meth 5 (.var 2) .nil))
 (.cons (.ite (.orV (.fld 0 (.var 2) 4) (.cmp .lt (.fld 0 (.var 2) 2) (.bi .len (.cons (.var 0) .nil))))
  (.cons (.ret (.cst .non))
   .nil)
  .nil)
 (.cons (.ret (.var 3))
 .nil)))))
/-- worth -/
def b10 : SL :=
  (.cons (.asg (.nm 2) (.idx (.var 0) (.cst (.int 0))))
 (.cons (.ite (.cmp .eq (.var 2) (.glo 6))
  (.cons (.ret (.idx (.var 0) (.cst (.int 1))))
   .nil)
  .nil)
 (.cons (.ite (.cmp .eq (.var 2) (.glo 7))
  (.cons (.ret (.idx (.var 1) (.idx (.var 0) (.cst (.int 1)))))
   .nil)
  .nil)
 (.cons (.par 3 4 (.call 10 (.cons (.idx (.var 0) (.cst (.int 1))) (.cons (.var 1) .nil))) (.call 10 (.cons (.idx (.var 0) (.cst (.int 2))) (.cons (.var 1) .nil))))
 (.cons (.ite (.cmp .eq (.var 2) (.cst (.str [42])))
  (.cons (.ret (.bin .mul (.var 3) (.var 4)))
   .nil)
  .nil)
 (.cons (.ret (.ite (.cmp .eq (.var 2) (.cst (.str [43]))) (.bin .add (.var 3) (.var 4)) (.bin .sub (.var 3) (.var 4))))
 .nil))))))
/-- is_integer -/
def b11 : SL :=
  (.cons (.ret (.andV (.isi (.var 0) .int) (.notV (.isi (.var 0) .bool))))
 .nil)
/-- is_between -/
def b12 : SL :=
  (.cons (.ret (.andV (.call 11 (.cons (.var 0) .nil)) (.chain .le .le (.var 1) (.var 0) (.var 2))))
 .nil)
/-- is_name -/
def b13 : SL :=
  (.cons (.ite (.orV (.notV (.isi (.var 0) .str)) (.notV (.chain .le .le (.cst (.int 1)) (.bi .len (.cons (.var 0) .nil)) (.glo 10))))
  (.cons (.ret (.cst (.bl false)))
   .nil)
  .nil)
 (.cons (.ret (.bi .all (.cons (.lc (.nm 1) [1] (.seq (.var 0)) (.cst (.bl true)) (.cmp .inn (.var 1) (.glo 9))) .nil)))
 .nil))
/-- are_feeds -/
def b14 : SL :=
  (.cons (.ite (.orV (.notV (.isi (.var 0) .tuple)) (.cmp .gt (.bi .len (.cons (.var 0) .nil)) (.glo 15)))
  (.cons (.ret (.cst (.bl false)))
   .nil)
  .nil)
 (.cons (.ite (.notV (.bi .all (.cons (.lc (.nm 2) [2] (.seq (.var 0)) (.cst (.bl true)) (.andV (.isi (.var 2) .str) (.cmp .inn (.var 2) (.var 1)))) .nil)))
  (.cons (.ret (.cst (.bl false)))
   .nil)
  .nil)
 (.cons (.ret (.cmp .eq (.bi .len (.cons (.dc (.nm 2) [2] (.seq (.var 0)) (.var 2) (.cst (.bl true))) .nil)) (.bi .len (.cons (.var 0) .nil))))
 .nil)))
/-- is_task -/
def b15 : SL :=
  (.cons (.ite (.orV (.notV (.isi (.var 0) .tuple)) (.cmp .ne (.bi .len (.cons (.var 0) .nil)) (.glo 11)))
  (.cons (.ret (.cst (.bl false)))
   .nil)
  .nil)
 (.cons (.asg (.tp [2, 3, 4, 5, 6]) (.var 0))
 (.cons (.ite (.orV (.notV (.call 13 (.cons (.var 2) .nil))) (.orV (.cmp .inn (.var 2) (.var 1)) (.notV (.call 12 (.cons (.var 3) (.cons (.glo 13) (.cons (.glo 14) .nil)))))))
  (.cons (.ret (.cst (.bl false)))
   .nil)
  .nil)
 (.cons (.ite (.orV (.notV (.call 14 (.cons (.var 4) (.cons (.var 1) .nil)))) (.notV (.call 12 (.cons (.var 5) (.cons (.cst (.int 1)) (.cons (.glo 16) .nil))))))
  (.cons (.ret (.cst (.bl false)))
   .nil)
  .nil)
 (.cons (.ret (.cmp .notn (.call 9 (.cons (.var 6) (.cons (.call 0 (.cons (.bi .len (.cons (.var 4) .nil)) .nil)) .nil))) (.cst .non)))
 .nil)))))
/-- is_graph -/
def b16 : SL :=
  (.cons (.ite (.orV (.notV (.isi (.var 0) .tuple)) (.notV (.chain .le .le (.cst (.int 1)) (.bi .len (.cons (.var 0) .nil)) (.glo 12))))
  (.cons (.ret (.cst (.bl false)))
   .nil)
  .nil)
 (.cons (.asg (.nm 1) .mdct)
 (.cons (.for (.nm 2) (.seq (.var 0))
  (.cons (.ite (.notV (.call 15 (.cons (.var 2) (.cons (.var 1) .nil))))
    (.cons (.ret (.cst (.bl false)))
     .nil)
    .nil)
   (.cons (.asgI (.var 1) (.idx (.var 2) (.cst (.int 0))) (.cst (.bl true)))
   .nil)))
 (.cons (.ret (.cst (.bl true)))
 .nil))))
/-- Graph.__init__ -/
def b17 : SL :=
  (.cons (.ite (.notV (.call 16 (.cons (.var 1) .nil)))
  (.cons .never
   .nil)
  .nil)
 (.cons (.asgF 1 (.var 0) 5 (.var 1))
 (.cons (.asgF 1 (.var 0) 6 (.dc (.tp [2, 3]) [2, 3] (.enum (.var 1)) (.idx (.var 3) (.cst (.int 0))) (.var 2)))
 (.cons (.asgF 1 (.var 0) 7 (.bi .tuple (.cons (.lc (.nm 3) [3] (.seq (.var 1)) (.cst (.bl true)) (.call 9 (.cons (.idx (.var 3) (.cst (.int 4))) (.cons (.call 0 (.cons (.bi .len (.cons (.idx (.var 3) (.cst (.int 2))) .nil)) .nil)) .nil)))) .nil)))
 .nil))))
/-- Graph.__contains__ -/
def b18 : SL :=
  (.cons (.ret (.andV (.isi (.var 1) .str) (.cmp .inn (.var 1) (.fld 1 (.var 0) 6))))
 .nil)
/-- Graph.place -/
def b19 : SL :=
  (.cons (.ite (.has true 18 (.var 1) (.var 0))
  (.cons .never
   .nil)
  .nil)
 (.cons (.ret (.idx (.fld 1 (.var 0) 6) (.var 1)))
 .nil))
/-- Graph.size -/
def b20 : SL :=
  (.cons (.ret (.idx (.idx (.fld 1 (.var 0) 5) (.meth 19 (.var 0) (.cons (.var 1) .nil))) (.cst (.int 1))))
 .nil)
/-- Graph.feeds -/
def b21 : SL :=
  (.cons (.ret (.idx (.idx (.fld 1 (.var 0) 5) (.meth 19 (.var 0) (.cons (.var 1) .nil))) (.cst (.int 2))))
 .nil)
/-- Graph.rounds -/
def b22 : SL :=
  (.cons (.ret (.idx (.idx (.fld 1 (.var 0) 5) (.meth 19 (.var 0) (.cons (.var 1) .nil))) (.cst (.int 3))))
 .nil)
/-- Graph.has_values -/
def b23 : SL :=
  (.cons (.asg (.nm 3) (.lc (.nm 4) [4] (.seq (.meth 21 (.var 0) (.cons (.var 1) .nil))) (.cst (.bl true)) (.meth 20 (.var 0) (.cons (.var 4) .nil))))
 (.cons (.ite (.orV (.notV (.isi (.var 2) .tuple)) (.cmp .ne (.bi .len (.cons (.var 2) .nil)) (.bi .len (.cons (.var 3) .nil))))
  (.cons (.ret (.cst (.bl false)))
   .nil)
  .nil)
 (.cons (.ret (.bi .all (.cons (.lc (.tp [5, 6]) [5, 6] (.zip (.var 2) (.var 3)) (.cst (.bl true)) (.call 12 (.cons (.var 5) (.cons (.cst (.int 0)) (.cons (.bin .sub (.var 6) (.cst (.int 1))) .nil))))) .nil)))
 .nil)))
/-- Graph.led_on -/
def b24 : SL :=
  (.cons (.par 6 7 (.idx (.fld 1 (.var 0) 7) (.meth 19 (.var 0) (.cons (.var 1) .nil))) (.dz (.glo 1) (.var 2)))
 (.cons (.for (.nm 5) (.range1 (.var 4))
  (.cons (.asgI (.var 7) (.glo 0) (.var 3))
   (.cons (.asg (.nm 3) (.bin .mod (.call 10 (.cons (.var 6) (.cons (.var 7) .nil))) (.meth 20 (.var 0) (.cons (.var 1) .nil))))
   .nil)))
 (.cons (.ret (.var 3))
 .nil)))
/-- Graph.names -/
def b25 : SL :=
  (.cons (.ret (.bi .tuple (.cons (.lc (.nm 1) [1] (.seq (.fld 1 (.var 0) 5)) (.cst (.bl true)) (.idx (.var 1) (.cst (.int 0)))) .nil)))
 .nil)
/-- Graph.state -/
def b26 : SL :=
  (.cons (.ite (.notV (.meth 23 (.var 0) (.cons (.var 1) (.cons (.var 2) .nil))))
  (.cons .never
   .nil)
  .nil)
 (.cons (.ite (.notV (.call 12 (.cons (.var 3) (.cons (.cst (.int 0)) (.cons (.meth 22 (.var 0) (.cons (.var 1) .nil)) .nil)))))
  (.cons .never
   .nil)
  .nil)
 (.cons (.ret (.meth 24 (.var 0) (.cons (.var 1) (.cons (.var 2) (.cons (.cst (.int 0)) (.cons (.var 3) .nil))))))
 .nil)))
/-- Graph.run -/
def b27 : SL :=
  (.cons (.ret (.meth 26 (.var 0) (.cons (.var 1) (.cons (.var 2) (.cons (.meth 22 (.var 0) (.cons (.var 1) .nil)) .nil)))))
 .nil)
/-- Graph.results -/
def b28 : SL :=
  (.cons (.asg (.nm 1) .mdct)
 (.cons (.for (.tp [2, 3, 4, 5, 6]) (.seq (.fld 1 (.var 0) 5))
  (.cons (.asgI (.var 1) (.var 2) (.meth 27 (.var 0) (.cons (.var 2) (.cons (.bi .tuple (.cons (.lc (.nm 7) [7] (.seq (.var 4)) (.cst (.bl true)) (.idx (.var 1) (.var 7))) .nil)) .nil))))
   .nil))
 (.cons (.ret (.bi .tuple (.cons (.lc (.nm 2) [2] (.seq (.prop 25 (.var 0))) (.cst (.bl true)) (.idx (.var 1) (.var 2))) .nil)))
 .nil)))
/-- Graph.needs -/
def b29 : SL :=
  (.cons (.asgT [(.nm 3), (.nm 4)] (.cons (.meth 19 (.var 0) (.cons (.var 1) .nil)) (.cons (.dsp (.cons (.var 1) (.cons (.cst (.bl true)) .nil))) .nil)))
 (.cons (.for (.nm 2) (.down (.var 3) (.neg (.cst (.int 1))))
  (.cons (.asg (.nm 5) (.idx (.fld 1 (.var 0) 5) (.var 2)))
   (.cons (.ite (.cmp .inn (.idx (.var 5) (.cst (.int 0))) (.var 4))
    (.cons (.expr (.upd (.var 4) (.dc (.nm 7) [7] (.seq (.idx (.var 5) (.cst (.int 2)))) (.var 7) (.cst (.bl true)))))
     .nil)
    .nil)
   .nil)))
 (.cons (.ret (.bi .tuple (.cons (.lc (.nm 6) [6] (.seq (.prop 25 (.var 0))) (.cmp .inn (.var 6) (.var 4)) (.var 6)) .nil)))
 .nil)))
/-- Graph.uses -/
def b30 : SL :=
  (.cons (.asgT [(.nm 3), (.nm 4)] (.cons (.meth 19 (.var 0) (.cons (.var 1) .nil)) (.cons (.dsp (.cons (.var 1) (.cons (.cst (.bl true)) .nil))) .nil)))
 (.cons (.for (.nm 2) (.seq (.slT (.fld 1 (.var 0) 5) (.var 3)))
  (.cons (.ite (.bi .any (.cons (.lc (.nm 6) [6] (.seq (.idx (.var 2) (.cst (.int 2)))) (.cst (.bl true)) (.cmp .inn (.var 6) (.var 4))) .nil))
    (.cons (.asgI (.var 4) (.idx (.var 2) (.cst (.int 0))) (.cst (.bl true)))
     .nil)
    .nil)
   .nil))
 (.cons (.ret (.bi .tuple (.cons (.lc (.nm 5) [5] (.seq (.prop 25 (.var 0))) (.cmp .inn (.var 5) (.var 4)) (.var 5)) .nil)))
 .nil)))
/-- _law_pot -/
def b31 : SL :=
  (.cons (.asg (.nm 2) (.ite (.cmp .lt (.var 1) (.bi .len (.cons (.var 0) .nil))) (.bi .int (.cons (.idx (.var 0) (.var 1)) .nil)) (.bin .add (.bin .mul (.cst (.int 37)) (.var 1)) (.cst (.int 13)))))
 (.cons (.asg (.nm 3) (.bin .mul (.bin .mod (.bi .int (.cons (.bi .abs (.cons (.var 2) .nil)) .nil)) (.bin .pow (.bin .pow (.cst (.int 10)) (.cst (.int 60))) (.cst (.int 5)))) (.bi .int (.cons (.cmp .ge (.bi .abs (.cons (.var 2) .nil)) (.bin .pow (.cst (.int 10)) (.cst (.int 18)))) .nil))))
 (.cons (.ret (.mlst (.cons (.var 3) (.cons (.bin .mod (.bi .int (.cons (.bin .add (.bin .add (.bin .mul (.bin .mod (.bi .int (.cons (.var 2) .nil)) (.cst (.int 2305843009213693951))) (.cst (.int 67943))) (.bin .mul (.bin .mul (.cst (.int 5653)) (.var 1)) (.var 1))) (.cst (.int 59))) .nil)) (.cst (.int 2305843009213693921))) (.cons (.cst (.int 0)) .nil)))))
 .nil)))
/-- _law_take -/
def b32 : SL :=
  (.cons (.ite (.cmp .gt (.idx (.var 0) (.cst (.int 0))) (.cst (.int 0)))
  (.cons (.asg (.nm 4) (.bin .mod (.bi .int (.cons (.idx (.var 0) (.cst (.int 0))) .nil)) (.var 1)))
   (.cons (.asgI (.var 0) (.cst (.int 0)) (.bin .fdiv (.idx (.var 0) (.cst (.int 0))) (.var 1)))
   (.cons (.ret (.var 4))
   .nil)))
  .nil)
 (.cons (.asgI (.var 0) (.cst (.int 2)) (.bin .add (.idx (.var 0) (.cst (.int 2))) (.cst (.int 1))))
 (.cons (.asg (.nm 2) (.idx (.lst (.cons (.cst (.int 2147483647)) (.cons (.cst (.int 2147483629)) (.cons (.cst (.int 2147483587)) (.cons (.cst (.int 2147483579)) (.cons (.cst (.int 2147483563)) .nil)))))) (.bin .mod (.bi .int (.cons (.idx (.var 0) (.cst (.int 2))) .nil)) (.cst (.int 5)))))
 (.cons (.asg (.nm 3) (.bin .mod (.bi .int (.cons (.bin .pow (.bin .add (.bin .add (.idx (.var 0) (.cst (.int 1))) (.bin .mul (.bin .mul (.cst (.int 99989)) (.idx (.var 0) (.cst (.int 2)))) (.idx (.var 0) (.cst (.int 2))))) (.cst (.int 41))) (.cst (.int 3))) .nil)) (.var 2)))
 (.cons (.ret (.bin .mod (.bi .int (.cons (.bin .fdiv (.bin .mul (.var 3) (.bin .add (.bin .mod (.bi .int (.cons (.var 3) .nil)) (.cst (.int 10007))) (.bin .mul (.cst (.int 89)) (.idx (.var 0) (.cst (.int 2)))))) (.cst (.int 97))) .nil)) (.var 1)))
 .nil)))))
/-- _law_of -/
def b33 : SL :=
  (.cons (.ret (.idx (.var 1) (.call 32 (.cons (.var 0) (.cons (.bi .len (.cons (.var 1) .nil)) .nil)))))
 .nil)
/-- _law_factor -/
def b34 : SL :=
  (.cons (.asg (.nm 3) (.call 32 (.cons (.var 0) (.cons (.cst (.int 5)) .nil))))
 (.cons (.ite (.cmp .lt (.var 3) (.cst (.int 2)))
  (.cons (.ret (.call 33 (.cons (.var 0) (.cons (.lst (.cons (.cst (.str [48])) (.cons (.cst (.str [49])) (.cons (.cst (.str [50])) (.cons (.cst (.str [51])) (.cons (.cst (.str [55])) (.cons (.cst (.str [49, 48])) (.cons (.cst (.str [57, 57])) (.cons (.cst (.str [57, 57, 57])) .nil))))))))) .nil))))
   .nil)
  .nil)
 (.cons (.ite (.orV (.cmp .lt (.var 3) (.cst (.int 4))) (.cmp .eq (.var 2) (.cst (.int 0))))
  (.cons (.ret (.call 33 (.cons (.var 0) (.cons (.var 1) .nil))))
   .nil)
  .nil)
 (.cons (.ret (.bin .add (.bin .add (.cst (.str [40])) (.call 36 (.cons (.var 0) (.cons (.var 1) (.cons (.bin .sub (.var 2) (.cst (.int 1))) .nil))))) (.cst (.str [41]))))
 .nil))))
/-- _law_product -/
def b35 : SL :=
  (.cons (.ret (.join (.cst (.str [42])) (.lc (.nm 3) [3] (.range1 (.bin .add (.cst (.int 1)) (.call 32 (.cons (.var 0) (.cons (.cst (.int 2)) .nil))))) (.cst (.bl true)) (.call 34 (.cons (.var 0) (.cons (.var 1) (.cons (.var 2) .nil)))))))
 .nil)
/-- _law_sum -/
def b36 : SL :=
  (.cons (.asg (.nm 3) (.call 35 (.cons (.var 0) (.cons (.var 1) (.cons (.var 2) .nil)))))
 (.cons (.for (.nm 4) (.range1 (.call 32 (.cons (.var 0) (.cons (.cst (.int 3)) .nil))))
  (.cons (.asg (.nm 3) (.bin .add (.bin .add (.var 3) (.call 33 (.cons (.var 0) (.cons (.lst (.cons (.cst (.str [43])) (.cons (.cst (.str [45])) .nil))) .nil)))) (.call 35 (.cons (.var 0) (.cons (.var 1) (.cons (.var 2) .nil))))))
   .nil))
 (.cons (.ret (.var 3))
 .nil)))
/-- _law_rule -/
def b37 : SL :=
  (.cons (.asg (.nm 3) (.slH (.cst (.str [115, 97, 98, 99])) (.bin .add (.cst (.int 1)) (.var 1))))
 (.cons (.asg (.nm 4) (.call 36 (.cons (.var 0) (.cons (.var 3) (.cons (.var 2) .nil)))))
 (.cons (.ite (.cmp .lt (.bi .len (.cons (.var 4) .nil)) (.cst (.int 41)))
  (.cons (.ret (.var 4))
   .nil)
  .nil)
 (.cons (.ret (.bin .add (.bin .add (.bin .add (.cst (.str [115, 42])) (.call 33 (.cons (.var 0) (.cons (.var 3) .nil)))) (.cst (.str [43]))) (.call 33 (.cons (.var 0) (.cons (.var 3) .nil)))))
 .nil))))
/-- _law_names -/
def b38 : SL :=
  (.cons (.asgT [(.nm 3), (.nm 4)] (.cons (.cst (.str [97, 98, 99, 100, 101, 102, 103, 104, 105, 106, 107, 108, 109, 110, 111, 112, 113, 114, 115, 116, 117, 118, 119, 120, 121, 122])) (.cons (.call 32 (.cons (.var 0) (.cons (.cst (.int 8)) .nil))) .nil)))
 (.cons (.asg (.nm 2) (.join (.cst (.str [])) (.lc (.nm 8) [8] (.range1 (.var 4)) (.cst (.bl true)) (.call 33 (.cons (.var 0) (.cons (.var 3) .nil))))))
 (.cons (.asgT [(.nm 5), (.nm 6)] (.cons (.call 32 (.cons (.var 0) (.cons (.bin .add (.var 4) (.cst (.int 1))) .nil))) (.cons (.call 32 (.cons (.var 0) (.cons (.cst (.int 26)) .nil))) .nil)))
 (.cons (.ret (.lc (.nm 7) [7] (.range1 (.var 1)) (.cst (.bl true)) (.bin .add (.bin .add (.slH (.var 2) (.var 5)) (.idx (.var 3) (.bin .mod (.bi .int (.cons (.bin .add (.var 6) (.bin .mul (.cst (.int 7)) (.var 7))) .nil)) (.cst (.int 26))))) (.slT (.var 2) (.var 5)))))
 .nil))))
/-- _law_tasks -/
def b39 : SL :=
  (.cons (.par 4 5 (.call 38 (.cons (.var 0) (.cons (.var 1) .nil))) (.mlst .nil))
 (.cons (.for (.tp [6, 7]) (.enum (.var 4))
  (.cons (.par 10 11 (.mslH (.var 4) (.var 6)) (.mlst .nil))
   (.cons (.for (.nm 8) (.range1 (.bi .min (.cons (.var 6) (.cons (.call 32 (.cons (.var 0) (.cons (.cst (.int 4)) .nil))) .nil))))
    (.cons (.expr (.app (.var 11) (.popA (.var 10) (.call 32 (.cons (.var 0) (.cons (.bi .len (.cons (.var 10) .nil)) .nil))))))
     .nil))
   (.cons (.asg (.nm 9) (.bin .add (.cst (.int 1)) (.call 32 (.cons (.var 0) (.cons (.var 2) .nil)))))
   (.cons (.expr (.app (.var 5) (.tup (.cons (.var 7) (.cons (.bin .add (.cst (.int 2)) (.call 32 (.cons (.var 0) (.cons (.cst (.int 4)) .nil)))) (.cons (.bi .tuple (.cons (.var 11) .nil)) (.cons (.var 9) (.cons (.call 37 (.cons (.var 0) (.cons (.bi .len (.cons (.var 11) .nil)) (.cons (.var 3) .nil)))) .nil))))))))
   .nil)))))
 (.cons (.ret (.bi .tuple (.cons (.var 5) .nil)))
 .nil)))
/-- law -/
def b40 : SL :=
  (.cons (.for (.nm 1) (.range1 (.bi .max (.cons (.cst (.int 1)) (.cons (.bi .min (.cons (.cst (.int 3)) (.cons (.bi .len (.cons (.var 0) .nil)) .nil))) .nil))))
  (.cons (.asg (.nm 2) (.call 31 (.cons (.var 0) (.cons (.var 1) .nil))))
   (.cons (.ite (.notV (.bi .all (.cons (.lc (.nm 3) [3] (.range1 (.cst (.int 4))) (.cst (.bl true)) (.callG 41 (.cons (.var 2) .nil))) .nil)))
    (.cons (.ret (.cst (.bl false)))
     .nil)
    .nil)
   .nil)))
 (.cons (.ret (.cst (.bl true)))
 .nil))
/-- _law_is_right -/
def b41 : SL :=
  (.cons (.asg (.nm 1) (.call 39 (.cons (.var 0) (.cons (.bin .add (.cst (.int 1)) (.call 32 (.cons (.var 0) (.cons (.cst (.int 12)) .nil)))) (.cons (.cst (.int 3)) (.cons (.cst (.int 0)) .nil))))))
 (.cons (.par 4 5 (.make 17 (.cons (.var 1) .nil)) (.lc (.nm 7) [7] (.seq (.var 1)) (.cst (.bl true)) (.idx (.var 7) (.cst (.int 0)))))
 (.cons (.asg (.nm 2) (.dpr (.lc (.nm 3) [3] (.seq (.var 5)) (.cst (.bl true)) (.tup (.cons (.var 3) (.cons (.call 42 (.cons (.var 1) (.cons (.var 3) .nil))) .nil))))))
 (.cons (.for (.nm 3) (.seq (.var 5))
  (.cons (.asg (.nm 6) (.lc (.nm 8) [8] (.seq (.var 5)) (.cmp .inn (.var 3) (.idx (.var 2) (.var 8))) (.var 8)))
   (.cons (.ite (.eqR true (.lst (.cons (.meth 29 (.var 4) (.cons (.var 3) .nil)) (.cons (.meth 30 (.var 4) (.cons (.var 3) .nil)) .nil))) (.lst (.cons (.bi .tuple (.cons (.idx (.var 2) (.var 3)) .nil)) (.cons (.bi .tuple (.cons (.var 6) .nil)) .nil))))
    (.cons (.ret (.cst (.bl false)))
     .nil)
    .nil)
   (.cons (.ite (.orV (.cmp .ne (.methK 29 (.var 4) (.cons (.var 3) .nil) [0, 1]) (.bi .tuple (.cons (.idx (.var 2) (.var 3)) .nil))) (.cmp .ne (.methK 30 (.var 4) (.cons (.var 3) .nil) [0, 1]) (.bi .tuple (.cons (.var 6) .nil))))
    (.cons (.ret (.cst (.bl false)))
     .nil)
    .nil)
   (.cons (.ite (.andV (.cmp .eq (.meth 21 (.var 4) (.cons (.var 3) .nil)) (.tup .nil)) (.cmp .ne (.meth 29 (.var 4) (.cons (.var 3) .nil)) (.tup (.cons (.var 3) .nil))))
    (.cons (.ret (.cst (.bl false)))
     .nil)
    .nil)
   .nil)))))
 (.cons (.ret (.cst (.bl true)))
 .nil)))))
/-- _law_needed -/
def b42 : SL :=
  (.cons (.asgT [(.nm 2), (.nm 3), (.nm 4)] (.cons (.dpr (.lc (.nm 6) [6] (.seq (.var 0)) (.cst (.bl true)) (.tup (.cons (.idx (.var 6) (.cst (.int 0))) (.cons (.idx (.var 6) (.cst (.int 2))) .nil))))) (.cons (.mlst .nil) (.cons (.mlst (.cons (.var 1) .nil)) .nil))))
 (.cons (.while (.emp true (.var 4))
  (.cons (.asg (.nm 5) (.popL (.var 4)))
   (.cons (.ite (.cmp .nin (.var 5) (.var 3))
    (.cons (.expr (.app (.var 3) (.var 5)))
     (.cons (.expr (.ext (.var 4) (.bi .list (.cons (.idx (.var 2) (.var 5)) .nil))))
     .nil))
    .nil)
   .nil)))
 (.cons (.ret (.lc (.nm 6) [6] (.seq (.var 0)) (.cmp .inn (.idx (.var 6) (.cst (.int 0))) (.var 3)) (.idx (.var 6) (.cst (.int 0)))))
 .nil)))
def Pr : Pg := ⟨[
  ⟨.glob, none, 1, 1, .clo, b0⟩,
  ⟨.init, some 0, 3, 3, .clo, b1⟩,
  ⟨.meth, some 0, 2, 2, .clo, b2⟩,
  ⟨.meth, some 0, 1, 1, .clo, b3⟩,
  ⟨.meth, some 0, 1, 1, .clo, b4⟩,
  ⟨.meth, some 0, 3, 1, .clo, b5⟩,
  ⟨.meth, some 0, 3, 1, .clo, b6⟩,
  ⟨.meth, some 0, 2, 1, .clo, b7⟩,
  ⟨.meth, some 0, 2, 1, .clo, b8⟩,
  ⟨.glob, none, 4, 2, .clo, b9⟩,
  ⟨.glob, none, 5, 2, .clo, b10⟩,
  ⟨.glob, none, 1, 1, .clo, b11⟩,
  ⟨.glob, none, 3, 3, .clo, b12⟩,
  ⟨.glob, none, 2, 1, .clo, b13⟩,
  ⟨.glob, none, 3, 2, .clo, b14⟩,
  ⟨.glob, none, 7, 2, .clo, b15⟩,
  ⟨.glob, none, 3, 1, .clo, b16⟩,
  ⟨.init, some 1, 4, 2, .clo, b17⟩,
  ⟨.meth, some 1, 2, 2, .clo, b18⟩,
  ⟨.meth, some 1, 2, 2, .clo, b19⟩,
  ⟨.meth, some 1, 2, 2, .clo, b20⟩,
  ⟨.meth, some 1, 2, 2, .clo, b21⟩,
  ⟨.meth, some 1, 2, 2, .clo, b22⟩,
  ⟨.meth, some 1, 7, 3, .clo, b23⟩,
  ⟨.meth, some 1, 8, 5, .clo, b24⟩,
  ⟨.prop, some 1, 2, 1, .clo, b25⟩,
  ⟨.meth, some 1, 4, 4, .clo, b26⟩,
  ⟨.meth, some 1, 3, 3, .clo, b27⟩,
  ⟨.meth, some 1, 8, 1, .clo, b28⟩,
  ⟨.meth, some 1, 8, 2, .clo, b29⟩,
  ⟨.meth, some 1, 7, 2, .clo, b30⟩,
  ⟨.glob, none, 4, 2, .raw, b31⟩,
  ⟨.glob, none, 5, 2, .clo, b32⟩,
  ⟨.glob, none, 2, 2, .clo, b33⟩,
  ⟨.glob, none, 4, 3, .clo, b34⟩,
  ⟨.glob, none, 4, 3, .clo, b35⟩,
  ⟨.glob, none, 5, 3, .clo, b36⟩,
  ⟨.glob, none, 5, 3, .clo, b37⟩,
  ⟨.glob, none, 9, 2, .clo, b38⟩,
  ⟨.glob, none, 12, 4, .clo, b39⟩,
  ⟨.glob, none, 4, 1, .clo, b40⟩,
  ⟨.glob, none, 9, 1, .clo, b41⟩,
  ⟨.glob, none, 7, 2, .clo, b42⟩],
  [(.str [115]), (.str [97, 98, 99]), (.int 40), (.int 6), (.int 3), (.str [48, 49, 50, 51, 52, 53, 54, 55, 56, 57]), (.str [110, 117, 109, 98, 101, 114]), (.str [108, 101, 116, 116, 101, 114]), (.tup [(.str [110, 117, 109, 98, 101, 114]), (.int 0)]), (.str [97, 98, 99, 100, 101, 102, 103, 104, 105, 106, 107, 108, 109, 110, 111, 112, 113, 114, 115, 116, 117, 118, 119, 120, 121, 122]), (.int 8), (.int 5), (.int 20), (.int 2), (.int 5), (.int 3), (.int 60)]⟩
end W

/-! what a task needs, along the feeds -/
namespace GB
open VI
inductive Rc (ts : List Tk) : List Nat → List Nat → Prop
  | here (x : List Nat) : Rc ts x x
  | next {x f : List Nat} {t : Tk} : Rc ts x t.nm → t ∈ ts → f ∈ t.feeds → Rc ts x f
theorem Rc.head {ts : List Tk} {t : Tk} {f y : List Nat} (m : t ∈ ts) (hf : f ∈ t.feeds) (r : Rc ts f y) : Rc ts t.nm y := by
  induction r with
  | here => exact .next (.here _) m hf
  | next r m' hf' ih => exact .next ih m' hf'
theorem Rc.first {ts : List Tk} {x y : List Nat} (r : Rc ts x y) : x = y ∨ ∃ t f, t ∈ ts ∧ t.nm = x ∧ f ∈ t.feeds ∧ Rc ts f y := by
  induction r with
  | here => exact .inl rfl
  | next r m hf ih =>
    rcases ih with q | ⟨u, g, um, un, ug, ur⟩
    · exact .inr ⟨_, _, m, q.symm, hf, .here _⟩
    · exact .inr ⟨u, g, um, un, ug, .next ur m hf⟩
section
variable {ts : List Tk}
theorem GrOk.below (g : GrOk [] ts) {i : Nat} {t : Tk} (e : ts[i]? = some t) {f : List Nat} (hf : f ∈ t.feeds) : ∃ j u, j < i ∧ ts[j]? = some u ∧ u.nm = f := by
  have := (g.at e).fed f hf
  rw [List.nil_append] at this
  obtain ⟨u, hu, un⟩ := List.mem_map.mp this
  obtain ⟨j, hj⟩ := List.getElem?_of_mem hu
  rw [List.getElem?_take] at hj
  split at hj
  · exact ⟨j, u, by assumption, hj, un⟩
  · cases hj
theorem GrOk.uni (g : GrOk [] ts) {i j : Nat} {t u : Tk} (e : ts[i]? = some t) (e2 : ts[j]? = some u) (q : t.nm = u.nm) : i = j := by
  have nd := g.nd.1
  have a : (names ts)[i]? = some t.nm := by simp [names, e]
  have b : (names ts)[j]? = some t.nm := by simp [names, e2, q]
  obtain ⟨hi, a⟩ := List.getElem?_eq_some_iff.mp a
  obtain ⟨hj, b⟩ := List.getElem?_eq_some_iff.mp b
  exact (List.getElem_inj nd).mp (a.trans b.symm)
theorem Rc.names (g : GrOk [] ts) {x y : List Nat} (r : Rc ts x y) (m : x ∈ GB.names ts) : y ∈ GB.names ts := by
  induction r with
  | here => exact m
  | next r m' hf ih =>
    obtain ⟨i, hi⟩ := List.getElem?_of_mem m'
    exact g.fed hi _ hf
/-- what holds the first and is closed under feeds holds all that is needed -/
theorem Rc.closed {x y : List Nat} {ns : List (List Nat)} (r : Rc ts x y) (m : x ∈ ns) (cl : ∀ t ∈ ts, t.nm ∈ ns → ∀ f ∈ t.feeds, f ∈ ns) : y ∈ ns := by
  induction r with
  | here => exact m
  | next r m' hf ih => exact cl _ m' ih _ hf
theorem mem_add1 {ns : List (List Nat)} {f x : List Nat} : x ∈ add1 ns f ↔ x ∈ ns ∨ x = f := by
  unfold add1
  split
  · constructor
    · exact .inl
    · rintro (q | rfl) <;> assumption
  · simp
theorem mem_addAll {x : List Nat} : ∀ {fs ns : List (List Nat)}, x ∈ addAll ns fs ↔ x ∈ ns ∨ x ∈ fs
  | [], ns => by simp [addAll]
  | f :: fs, ns => by
    have := mem_addAll (x := x) (fs := fs) (ns := add1 ns f)
    unfold addAll at this ⊢
    rw [List.foldl_cons, this, mem_add1, List.mem_cons, or_assoc]
theorem need_rc {x : List Nat} : ∀ {k : Nat} {ns : List (List Nat)}, (∀ y ∈ ns, Rc ts x y) → ∀ y ∈ needF ts k ns, Rc ts x y
  | 0, ns, a, y, hy => a y hy
  | k + 1, ns, a, y, hy => by
    refine need_rc (k := k) (fun z hz => ?_) y hy
    split at hz
    · rename_i t e
      split at hz
      · rename_i m
        rcases mem_addAll.mp hz with q | q
        · exact a z q
        · exact .next (a _ m) (List.mem_of_getElem? e) q
      · exact a z hz
    · exact a z hz
theorem need_mono {x : List Nat} : ∀ {k : Nat} {ns : List (List Nat)}, x ∈ ns → x ∈ needF ts k ns
  | 0, ns, m => m
  | k + 1, ns, m => by
    refine need_mono (k := k) ?_
    split
    · split
      · exact mem_addAll.mpr (.inl m)
      · exact m
    · exact m
theorem need_cl (g : GrOk [] ts) : ∀ {k : Nat} {ns : List (List Nat)}, (∀ j t, k ≤ j → ts[j]? = some t → t.nm ∈ ns → ∀ f ∈ t.feeds, f ∈ ns) → ∀ t ∈ ts, t.nm ∈ needF ts k ns → ∀ f ∈ t.feeds, f ∈ needF ts k ns
  | 0, ns, a, t, m, q, f, hf => by
    obtain ⟨j, hj⟩ := List.getElem?_of_mem m
    exact a j t (Nat.zero_le _) hj q f hf
  | k + 1, ns, a, t, m, q, f, hf => by
    refine need_cl g (k := k) (fun j u hj e q' f hf => ?_) t m q f hf
    clear q
    have q := q'
    clear q'
    split at q
    · rename_i v ev
      split at q
      · rename_i mv
        rw [if_pos mv]
        rcases mem_addAll.mp q with q | q
        · by_cases hk : j = k
          · subst hk
            rw [ev] at e; cases e
            exact mem_addAll.mpr (.inr hf)
          · exact mem_addAll.mpr (.inl (a j u (by omega) e q f hf))
        · obtain ⟨i, w, hi, ew, en⟩ := g.below ev q
          have := g.uni ew e en
          omega
      · rename_i mv
        rw [if_neg mv]
        by_cases hk : j = k
        · subst hk
          rw [ev] at e; cases e
          exact absurd q mv
        · exact a j u (by omega) e q f hf
    · rename_i ev
      have : j ≠ k := fun hk => by subst hk; rw [ev] at e; cases e
      exact a j u (by omega) e q f hf
theorem need_iff (g : GrOk [] ts) {i : Nat} {t : Tk} (e : ts[i]? = some t) {f : List Nat} : f ∈ needF ts (i + 1) [t.nm] ↔ Rc ts t.nm f := by
  constructor
  · exact need_rc (fun y hy => by rw [List.mem_singleton.mp hy]; exact .here _) f
  · intro r
    refine r.closed (need_mono (by simp)) (need_cl g fun j u hj eu q => ?_)
    have := g.uni eu e (List.mem_singleton.mp q)
    omega
theorem use_rc {x : List Nat} : ∀ {r : List Tk} {ns : List (List Nat)}, (∀ t ∈ r, t ∈ ts) → (∀ y ∈ ns, Rc ts y x) → ∀ y ∈ useF r ns, Rc ts y x
  | [], ns, _, a, y, hy => a y hy
  | t :: r, ns, s, a, y, hy => by
    refine use_rc (r := r) (fun u hu => s u (by simp [hu])) (fun z hz => ?_) y hy
    split at hz
    · rename_i an
      rcases mem_add1.mp hz with q | q
      · exact a z q
      · obtain ⟨f, hf, q2⟩ := List.any_eq_true.mp an
        rw [q]
        exact .head (s t (by simp)) hf (a f (of_decide_eq_true q2))
    · exact a z hz
theorem use_mono {x : List Nat} : ∀ {r : List Tk} {ns : List (List Nat)}, x ∈ ns → x ∈ useF r ns
  | [], ns, m => m
  | t :: r, ns, m => by
    refine use_mono (r := r) ?_
    split
    · exact mem_add1.mpr (.inl m)
    · exact m
theorem use_all {x : List Nat} (g : GrOk [] ts) : ∀ {k : Nat} {ns : List (List Nat)}, x ∈ ns → (∀ (j : Nat) (t : Tk), j < k → ts[j]? = some t → Rc ts t.nm x → t.nm ∈ ns) → ∀ (j : Nat) (t : Tk), ts[j]? = some t → Rc ts t.nm x → t.nm ∈ useF (ts.drop k) ns := by
  intro k ns m a j t e rc
  by_cases hk : ts.length ≤ k
  · rw [List.drop_eq_nil_of_le hk]
    exact a j t (by have := (List.getElem?_eq_some_iff.mp e).1; omega) e rc
  · have hk : k < ts.length := by omega
    rw [List.drop_eq_getElem_cons hk, useF]
    refine use_all g (k := k + 1) ?_ (fun j u hj eu ru => ?_) j t e rc
    · split
      · exact mem_add1.mpr (.inl m)
      · exact m
    · by_cases hjk : j = k
      · subst hjk
        have eu2 : ts[j] = u := (List.getElem?_eq_some_iff.mp eu).2
        rw [eu2]
        rcases ru.first with q | ⟨v, f, vm, vn, vf, vr⟩
        · split
          · exact mem_add1.mpr (.inr rfl)
          · rw [q]; exact m
        · obtain ⟨b, hb⟩ := List.getElem?_of_mem vm
          have := g.uni hb eu vn
          subst this
          rw [eu] at hb; cases hb
          obtain ⟨i, w, hi, ew, en⟩ := g.below eu vf
          have fm : f ∈ ns := by rw [← en]; exact a i w hi ew (by rw [en]; exact vr)
          rw [if_pos (List.any_eq_true.mpr ⟨f, vf, decide_eq_true fm⟩)]
          exact mem_add1.mpr (.inr rfl)
      · have := a j u (by omega) eu ru
        split
        · exact mem_add1.mpr (.inl this)
        · exact this
termination_by k => ts.length - k
theorem rc_le (g : GrOk [] ts) {i : Nat} {t : Tk} (e : ts[i]? = some t) : ∀ {j : Nat} {u : Tk}, ts[j]? = some u → Rc ts u.nm t.nm → i ≤ j := by
  intro j
  induction j using Nat.strongRecOn with
  | _ j ih =>
    intro u eu r
    rcases r.first with q | ⟨v, f, vm, vn, vf, vr⟩
    · exact Nat.le_of_eq (g.uni e eu q.symm)
    · obtain ⟨b, hb⟩ := List.getElem?_of_mem vm
      have := g.uni hb eu vn
      subst this
      rw [eu] at hb; cases hb
      obtain ⟨k, w, hk, ew, en⟩ := g.below eu vf
      have := ih k hk ew (by rw [en]; exact vr)
      omega
theorem use_iff (g : GrOk [] ts) {i : Nat} {t : Tk} (e : ts[i]? = some t) {f : List Nat} (m : f ∈ names ts) : f ∈ useF (ts.drop i) [t.nm] ↔ Rc ts f t.nm := by
  constructor
  · exact use_rc (fun u hu => List.mem_of_mem_drop hu) (fun y hy => by rw [List.mem_singleton.mp hy]; exact .here _) f
  · intro r
    obtain ⟨u, hu, rfl⟩ := List.mem_map.mp m
    obtain ⟨j, hj⟩ := List.getElem?_of_mem hu
    refine use_all g (by simp) (fun j u hj eu ru => ?_) j u hj r
    have := rc_le g e eu ru
    omega
end
end GB

/-! _law_needed -/
namespace Q05
open VI GB
theorem okS_name {s : List Nat} (h : isName s) : okS s = true := by
  refine List.all_eq_true.mpr fun c hc => ?_
  have := List.all_eq_true.mp h.2.2 c hc
  have : c ∈ az := by simpa using this
  refine decide_eq_true ?_
  unfold az at this
  simp only [List.mem_cons, List.not_mem_nil, or_false] at this
  omega
theorem fil_lt {α : Type} {p q : α → Bool} {a : α} : ∀ {xs : List α}, (∀ x, q x = true → p x = true) → a ∈ xs → p a = true → q a = false → (xs.filter q).length < (xs.filter p).length
  | [], _, m, _, _ => by simp at m
  | x :: xs, s, m, pa, qa => by
    have le : (xs.filter q).length ≤ (xs.filter p).length := by
      clear m
      induction xs with
      | nil => simp
      | cons y ys ih =>
        by_cases hq : q y = true
        · simp [hq, s y hq, ih]
        · by_cases hp : p y = true
          · simp [hq, hp]; omega
          · simp [hq, hp, ih]
    by_cases e : a = x
    · subst e
      simp [pa, qa]; omega
    · have m' : a ∈ xs := by simpa [e] using m
      have ih := fil_lt (xs := xs) s m' pa qa
      by_cases hq : q x = true
      · simp [hq, s x hq, ih]
      · by_cases hp : p x = true
        · simp [hq, hp]; omega
        · simp [hq, hp, ih]
/-- feeds of a name -/
def fD (ts : List Tk) : Ob := .dct (ts.map fun t => .str t.nm) (ts.map fun t => .tup (t.feeds.map D.str))
section
variable {P : Pg} {n l d : Nat} {h B : Hh} {ts : List Tk}
theorem keys_fD : ∀ ts : List Tk, (ts.map fun t => D.str t.nm).all isKey = true
  | [] => rfl
  | t :: ts => by rw [List.map_cons, List.all_cons, keys_fD ts]; rfl
theorem key_fD {t : Tk} : ∀ {ts : List Tk}, (names ts).Nodup → t ∈ ts → keyAt (.str t.nm) (ts.map fun t => D.str t.nm) (ts.map fun t => D.tup (t.feeds.map D.str)) = some (.tup (t.feeds.map D.str))
  | [], _, m => by simp at m
  | u :: ts, nd, m => by
    have nd' : u.nm ∉ names ts ∧ (names ts).Nodup := by simpa [names] using nd
    rw [List.map_cons, List.map_cons]
    by_cases e : u.nm = t.nm
    · rcases List.mem_cons.mp m with q | q
      · subst q; exact keyAt_hit (eqv_strT rfl)
      · exact absurd (by rw [e]; exact List.mem_map.mpr ⟨t, q, rfl⟩) nd'.1
    · rw [keyAt_miss (eqv_strF e)]
      refine key_fD nd'.2 ?_
      rcases List.mem_cons.mp m with q | q
      · subst q; exact absurd rfl e
      · exact q
theorem ix_fD {t : Tk} (hd : h[d]? = some (fD ts)) (nd : (names ts).Nodup) (m : t ∈ ts) : idxF h (.ref d) (.str t.nm) = some (.tup (t.feeds.map D.str)) := by
  show idxO h (.ref d) (.str t.nm) = _
  simp only [idxO, lstOf, dctOf, hd, fD]
  rw [keys_fD, key_fD nd m]; rfl
theorem flats : ∀ xs : List (List Nat), (xs.map D.str).all flat = true
  | [] => rfl
  | x :: xs => by rw [List.map_cons, List.all_cons, flats xs]; rfl
theorem any_dec {f : List Nat} {ks : List (List Nat)} : (ks.map D.str).any (fun x => D.eqv x (.str f)) = decide (f ∈ ks) := by
  by_cases m : f ∈ ks
  · rw [any_strT m, decide_eq_true m]
  · rw [any_str m, decide_eq_false m]
theorem in_cell {f : List Nat} {xs : List (List Nat)} (hd : h[d]? = some (.lst (xs.map D.str))) : inD h (.str f) (.ref d) = some (decide (f ∈ xs)) := by
  show (match lstOf h (.ref d) with
    | some ys => if flat (.str f) && ys.all flat then some (ys.any fun z => D.eqv z (.str f)) else none
    | none => _) = _
  simp only [lstOf, hd, flats, any_dec]
  rfl
theorem o_inC {f : List Nat} {xs : List (List Nat)} (hd : h[d]? = some (.lst (xs.map D.str))) : op2 h .inn (.str f) (.ref d) = some (.bl (decide (f ∈ xs))) := by
  show (inD h (.str f) (.ref d)).map D.bl = _
  rw [in_cell hd]; rfl
theorem o_ninC {f : List Nat} {xs : List (List Nat)} (hd : h[d]? = some (.lst (xs.map D.str))) : op2 h .nin (.str f) (.ref d) = some (.bl (!decide (f ∈ xs))) := by
  show (inD h (.str f) (.ref d)).map (fun b => D.bl !b) = _
  rw [in_cell hd]; rfl
theorem at0 {a b c : Ob} : (B ++ [a, b, c])[B.length]? = some a := by simp
theorem at1 {a b c : Ob} : (B ++ [a, b, c])[B.length + 1]? = some b := by simp
theorem at2 {a b c : Ob} : (B ++ [a, b, c])[B.length + 2]? = some c := by simp
theorem st1 {a b c x : Ob} : (B ++ [a, b, c]).set (B.length + 1) x = B ++ [a, x, c] := by simp
theorem st2 {a b c x : Ob} : (B ++ [a, b, c]).set (B.length + 2) x = B ++ [a, b, x] := by simp
def bDfs : SL :=
  (.cons (.asg (.nm 5) (.popL (.var 4)))
   (.cons (.ite (.cmp .nin (.var 5) (.var 3))
    (.cons (.expr (.app (.var 3) (.var 5)))
     (.cons (.expr (.ext (.var 4) (.bi .list (.cons (.idx (.var 2) (.var 5)) .nil))))
     .nil))
    .nil)
   .nil))
def dE (B : Hh) (ts : List Tk) (x : List Nat) (x5 : Option D) : Ev := [some (.tup (ts.map Tk.d)), some (.str x), some (.ref B.length), some (.ref (B.length + 1)), some (.ref (B.length + 2)), x5, none]
def dH (B : Hh) (ts : List Tk) (fo le : List (List Nat)) : Hh := B ++ [fD ts, .lst (fo.map D.str), .lst (le.map D.str)]
theorem t_emp {Φ : Fn} {x : List Nat} {x5 : Option D} {fo le : List (List Nat)} (ok : le.all okS = true) : ev P Φ (.emp true (.var 4)) (dE B ts x x5) (dH B ts fo le) = some (.bl (!le.isEmpty), dH B ts fo le) := by
  have a : ev P Φ (.var 4) (dE B ts x x5) (dH B ts fo le) = some (.ref (B.length + 2), dH B ts fo le) := e_var rfl
  have b : (dH B ts fo le)[B.length + 2]? = some (.lst (le.map D.str)) := at2
  rw [E_emp, a, Option.bind_some]
  simp only [drf, b]
  rw [if_pos (plains_strs ok)]
  cases le <;> rfl
theorem t_popL {Φ : Fn} {x y : List Nat} {x5 : Option D} {fo le : List (List Nat)} : ev P Φ (.popL (.var 4)) (dE B ts x x5) (dH B ts fo (le ++ [y])) = some (.str y, dH B ts fo le) := by
  have a : ev P Φ (.var 4) (dE B ts x x5) (dH B ts fo (le ++ [y])) = some (.ref (B.length + 2), dH B ts fo (le ++ [y])) := e_var rfl
  have b : (dH B ts fo (le ++ [y]))[B.length + 2]? = some (.lst ((le ++ [y]).map D.str)) := at2
  have c : (dH B ts fo (le ++ [y])).set (B.length + 2) (.lst (le.map D.str)) = dH B ts fo le := st2
  rw [E_popL, a, Option.bind_some]
  simp only [b]
  rw [show ((le ++ [y]).map D.str)[((le ++ [y]).map D.str).length - 1]? = some (.str y) by simp, Option.map_some, show ((le ++ [y]).map D.str).dropLast = le.map D.str by simp, c]
theorem t_ext {Φ : Fn} {x : List Nat} {fo le : List (List Nat)} {t : Tk} (nd : (names ts).Nodup) (m : t ∈ ts) (few : le.length + t.feeds.length ≤ 900) : ev P Φ (.ext (.var 4) (.bi .list (.cons (.idx (.var 2) (.var 5)) .nil))) (dE B ts x (some (.str t.nm))) (dH B ts fo le) = some (.non, dH B ts fo (le ++ t.feeds)) := by
  have a : ev P Φ (.var 4) (dE B ts x (some (.str t.nm))) (dH B ts fo le) = some (.ref (B.length + 2), dH B ts fo le) := e_var rfl
  have b : (dH B ts fo le)[B.length + 2]? = some (.lst (le.map D.str)) := at2
  have c : (dH B ts fo le).set (B.length + 2) (.lst ((le ++ t.feeds).map D.str)) = dH B ts fo (le ++ t.feeds) := st2
  have i : ev P Φ (.bi .list (.cons (.idx (.var 2) (.var 5)) .nil)) (dE B ts x (some (.str t.nm))) (dH B ts fo le) = some (.lst (t.feeds.map D.str), dH B ts fo le) :=
    e_bi (es_cons (e_idx (e_var rfl) (e_var rfl) (ix_fD at0 nd m)) es_nil) rfl
  rw [E_ext, a, Option.bind_some, i, Option.bind_some]
  simp only [b]
  rw [if_pos (lim_big (by simp only [List.length_map]; omega)), ← List.map_append, c]
/-- the names along the feeds -/
theorem l_dfs (g : GrOk [] ts) {Φ : Fn} {x : List Nat} (few : ts.length ≤ 20) (hx : x ∈ names ts) : ∀ {F : Nat} {fo le : List (List Nat)} {x5 : Option D}, (∀ y ∈ le, y ∈ names ts) → (∀ y, y ∈ fo ∨ y ∈ le → Rc ts x y) → (∀ t ∈ ts, t.nm ∈ fo → ∀ f ∈ t.feeds, f ∈ fo ∨ f ∈ le) → (x ∈ fo ∨ x ∈ le) →
    4 * ((names ts).filter fun f => !decide (f ∈ fo)).length + le.length ≤ F → 4 * ((names ts).filter fun f => !decide (f ∈ fo)).length + le.length ≤ 100 → fo.length + ((names ts).filter fun f => !decide (f ∈ fo)).length ≤ 20 →
    ∃ (fo' : List (List Nat)) (y5 : Option D), whileLoop (ev P Φ (.emp true (.var 4))) (exs P Φ bDfs) (F + 1) (dE B ts x x5) (dH B ts fo le) = some (.nx (dE B ts x y5) (dH B ts fo' [])) ∧ ∀ y, y ∈ fo' ↔ Rc ts x y := by
  intro F
  induction F with
  | zero =>
    intro fo le x5 _ i1 i2 i3 hF _ _
    have : le = [] := List.length_eq_zero_iff.mp (by omega)
    subst this
    refine ⟨fo, x5, w_off (t_emp rfl), fun y => ⟨fun q => i1 y (.inl q), fun r => r.closed (by simpa using i3) fun t m q f hf => by simpa using i2 t m q f hf⟩⟩
  | succ F ih =>
    intro fo le x5 i0 i1 i2 i3 hF h100 h20
    have okl : le.all okS = true := List.all_eq_true.mpr fun y hy => by
      obtain ⟨t, m, rfl⟩ := List.mem_map.mp (i0 y hy)
      obtain ⟨i, hi⟩ := List.getElem?_of_mem m
      exact okS_name (g.at hi).nm
    rcases List.eq_nil_or_concat le with q | ⟨le', y, q⟩
    · subst q
      refine ⟨fo, x5, w_off (t_emp rfl), fun y => ⟨fun q => i1 y (.inl q), fun r => r.closed (by simpa using i3) fun t m q f hf => by simpa using i2 t m q f hf⟩⟩
    · rw [List.concat_eq_append] at q
      subst q
      have tt := t_emp (P := P) (Φ := Φ) (B := B) (ts := ts) (x := x) (x5 := x5) (fo := fo) okl
      rw [show (!(le' ++ [y]).isEmpty) = true by simp] at tt
      have s1 : ex P Φ (.asg (.nm 5) (.popL (.var 4))) (dE B ts x x5) (dH B ts fo (le' ++ [y])) = some (.nx (dE B ts x (some (.str y))) (dH B ts fo le')) := x_asg t_popL rfl
      have c1 : ev P Φ (.cmp .nin (.var 5) (.var 3)) (dE B ts x (some (.str y))) (dH B ts fo le') = some (.bl (!decide (y ∈ fo)), dH B ts fo le') := e_cmp (e_var rfl) (e_var rfl) (o_ninC at1)
      have ll : (le' ++ [y]).length = le'.length + 1 := by simp
      by_cases m : y ∈ fo
      · have bd : exs P Φ bDfs (dE B ts x x5) (dH B ts fo (le' ++ [y])) = some (.nx (dE B ts x (some (.str y))) (dH B ts fo le')) := by
          rw [decide_eq_true m] at c1
          unfold bDfs
          rw [Xs_cons, s1, Option.bind_some, thnO_nx, Xs_cons, x_iteF c1, Xs_nil, Option.bind_some, thnO_nx, Xs_nil]
        rw [w_on tt bd]
        refine ih (fun z hz => i0 z (by simp [hz])) (fun z hz => i1 z (by rcases hz with q | q <;> simp [q])) (fun t tm tf f hf => ?_) ?_ (by omega) (by omega) h20
        · rcases i2 t tm tf f hf with q | q
          · exact .inl q
          · rcases List.mem_append.mp q with q | q
            · exact .inr q
            · exact .inl (by rw [List.mem_singleton.mp q]; exact m)
        · rcases i3 with q | q
          · exact .inl q
          · rcases List.mem_append.mp q with q | q
            · exact .inr q
            · exact .inl (by rw [List.mem_singleton.mp q]; exact m)
      · have yn : y ∈ names ts := i0 y (by simp)
        obtain ⟨t, tm, tn⟩ := List.mem_map.mp yn
        subst tn
        obtain ⟨i, hi⟩ := List.getElem?_of_mem tm
        have few3 := (g.at hi).few
        have lt := fil_lt (p := fun f => !decide (f ∈ fo)) (q := fun f => !decide (f ∈ fo ++ [t.nm])) (a := t.nm) (xs := names ts) (fun z hz => by simp at hz ⊢; exact hz.1) yn (by simp [m]) (by simp)
        have ap : ev P Φ (.app (.var 3) (.var 5)) (dE B ts x (some (.str t.nm))) (dH B ts fo le') = some (.non, dH B ts (fo ++ [t.nm]) le') := by
          refine (e_app (e_var rfl) (e_var rfl) at1 at1 (lim_big (by rw [List.length_map]; omega))).trans ?_
          rw [show fo.map D.str ++ [D.str t.nm] = (fo ++ [t.nm]).map D.str by simp]
          exact congrArg (fun z => some (D.non, z)) st1
        have bd : exs P Φ bDfs (dE B ts x x5) (dH B ts fo (le' ++ [t.nm])) = some (.nx (dE B ts x (some (.str t.nm))) (dH B ts (fo ++ [t.nm]) (le' ++ t.feeds))) := by
          rw [decide_eq_false m] at c1
          unfold bDfs
          rw [Xs_cons, s1, Option.bind_some, thnO_nx, Xs_cons, x_iteT c1, Xs_cons, X_expr, ap, Option.map_some, Option.bind_some, thnO_nx, Xs_cons, X_expr, t_ext g.nd.1 tm (by omega), Option.map_some, Option.bind_some, thnO_nx, Xs_nil, Option.bind_some, thnO_nx, Xs_nil]
        rw [w_on tt bd]
        have l2 : (le' ++ t.feeds).length ≤ le'.length + 3 := by rw [List.length_append]; omega
        have l3 : (fo ++ [t.nm]).length = fo.length + 1 := by simp
        refine ih (fun z hz => ?_) (fun z hz => ?_) (fun u um uf f hf => ?_) ?_ (by omega) (by omega) (by omega)
        · rcases List.mem_append.mp hz with q | q
          · exact i0 z (by simp [q])
          · exact g.fed hi z q
        · have rt := i1 t.nm (.inr (by simp))
          rcases hz with q | q
          · rcases List.mem_append.mp q with q | q
            · exact i1 z (.inl q)
            · rw [List.mem_singleton.mp q]; exact rt
          · rcases List.mem_append.mp q with q | q
            · exact i1 z (.inr (by simp [q]))
            · exact .next rt tm q
        · rcases List.mem_append.mp uf with q | q
          · rcases i2 u um q f hf with q | q
            · exact .inl (by simp [q])
            · rcases List.mem_append.mp q with q | q
              · exact .inr (by simp [q])
              · exact .inl (by simp [List.mem_singleton.mp q])
          · obtain ⟨j, hj⟩ := List.getElem?_of_mem um
            have := g.uni hj hi (List.mem_singleton.mp q)
            subst this
            rw [hi] at hj; cases hj
            exact .inr (by simp [hf])
        · rcases i3 with q | q
          · exact .inl (by simp [q])
          · rcases List.mem_append.mp q with q | q
            · exact .inr (by simp [q])
            · exact .inl (by simp [List.mem_singleton.mp q])
end
end Q05

/-! _law_needed, whole -/
namespace Q05
open VI GB
theorem dsp_new {α : Type} (nm : α → List Nat) (v : α → D) : ∀ {xs : List α} {ks : List (List Nat)} {vs : List D}, (ks ++ xs.map nm).Nodup → dspPut (xs.map fun x => (D.str (nm x), v x)) (ks.map D.str) vs = ((ks ++ xs.map nm).map D.str, vs ++ xs.map v)
  | [], ks, vs, _ => by simp [dspPut]
  | x :: xs, ks, vs, nd => by
    have m : nm x ∉ ks := fun q => (List.nodup_append.mp nd).2.2 _ q (nm x) (by simp) rfl
    rw [List.map_cons, dspPut, put_new m, dsp_new nm v (by simpa using nd)]
    simp
theorem prs {α : Type} (nm : α → List Nat) (v : α → D) : ∀ xs : List α, pairsOf (xs.map fun x => D.tup [.str (nm x), v x]) = some (xs.map fun x => (D.str (nm x), v x))
  | [] => rfl
  | x :: xs => by rw [List.map_cons, pairsOf, prs nm v xs]; rfl
def needN (ts : List Tk) (i : Nat) (t : Tk) : List (List Nat) := (names ts).filter fun f => decide (f ∈ needF ts (i + 1) [t.nm])
def useN (ts : List Tk) (i : Nat) (t : Tk) : List (List Nat) := (names ts).filter fun f => decide (f ∈ useF (ts.drop i) [t.nm])
section
variable {P : Pg} {n l d i : Nat} {h B : Hh} {ts : List Tk} {t : Tk}
theorem e_dpr {α : Type} {Φ : Fn} {δ : Ev} {a : E} {xs : List α} {h1 : Hh} {nm : α → List Nat} {v : α → D} (nd : (xs.map nm).Nodup) (ha : ev P Φ a δ h = some (.lst (xs.map fun x => D.tup [.str (nm x), v x]), h1)) : ev P Φ (.dpr a) δ h = some (.ref h1.length, h1 ++ [.dct ((xs.map nm).map D.str) (xs.map v)]) := by
  have dn := dsp_new nm v (xs := xs) (ks := []) (vs := []) (by simpa using nd)
  rw [List.map_nil, List.nil_append, List.nil_append] at dn
  rw [E_dpr, ha, Option.bind_some]
  simp only [prs, Option.map_some, dn]
theorem ix_tk0 : idxF h t.d (.int 0) = some (.str t.nm) := rfl
theorem ix_tk2 : idxF h t.d (.int 2) = some (.tup (t.feeds.map D.str)) := rfl
theorem t_needed (hN : P.defs[42]? = some ⟨.glob, none, 7, 2, .clo, W.b42⟩) (c : Cl h) (g : GrOk [] ts) (few : ts.length ≤ 20) (e : ts[i]? = some t) : run P (n + 1) 42 [.tup (ts.map Tk.d), .str t.nm] h = some (.lst ((needN ts i t).map D.str), h) := by
  have tm : t.nm ∈ names ts := List.mem_map.mpr ⟨t, List.mem_of_getElem? e, rfl⟩
  have nl : (names ts).length = ts.length := by simp [names]
  have lc0 : ev P (run P n) (.lc (.nm 6) [6] (.seq (.var 0)) (.cst (.bl true)) (.tup (.cons (.idx (.var 6) (.cst (.int 0))) (.cons (.idx (.var 6) (.cst (.int 2))) .nil)))) [some (.tup (ts.map Tk.d)), some (.str t.nm), none, none, none, none, none] h = some (.lst (ts.map fun t => D.tup [.str t.nm, .tup (t.feeds.map D.str)]), h) := by
    refine e_lc (xs := ts.map Tk.d) (h1 := h) (by rw [I_seq, e_var rfl]; rfl) (lim_big (by rw [List.length_map]; omega)) ?_
    refine lc_fun Tk.d (fun t => D.tup [.str t.nm, .tup (t.feeds.map D.str)]) fun u hu => ⟨[some (.tup (ts.map Tk.d)), some (.str t.nm), none, none, none, none, some u.d], rfl, E_cst, ?_⟩
    exact e_tup (es_cons (e_idx (e_var rfl) E_cst ix_tk0) (es_cons (e_idx (e_var rfl) E_cst ix_tk2) es_nil))
  have dp := e_dpr (nm := Tk.nm) (v := fun t => D.tup (t.feeds.map D.str)) g.nd.1 lc0
  have s1 : ex P (run P n) (.asgT [(.nm 2), (.nm 3), (.nm 4)] (.cons (.dpr (.lc (.nm 6) [6] (.seq (.var 0)) (.cst (.bl true)) (.tup (.cons (.idx (.var 6) (.cst (.int 0))) (.cons (.idx (.var 6) (.cst (.int 2))) .nil))))) (.cons (.mlst .nil) (.cons (.mlst (.cons (.var 1) .nil)) .nil)))) [some (.tup (ts.map Tk.d)), some (.str t.nm), none, none, none, none, none] h = some (.nx (dE h ts t.nm none) (dH h ts [] [t.nm])) := by
    rw [X_asgT, es_cons dp (es_cons (e_mlst es_nil) (es_cons (e_mlst (es_cons (e_var rfl) es_nil)) es_nil)), Option.bind_some]
    unfold dE dH fD
    simp [putsX]
  obtain ⟨fo, y5, lp, al⟩ := l_dfs (P := P) (Φ := run P n) (B := h) g few tm (F := 999999) (fo := []) (le := [t.nm]) (x5 := none) (fun y hy => by rw [List.mem_singleton.mp hy]; exact tm) (fun y hy => by
      rcases hy with q | q
      · simp at q
      · rw [List.mem_singleton.mp q]; exact .here _) (fun u _ q => by simp at q) (by simp) (by
      have := List.length_filter_le (fun f => !decide (f ∈ ([] : List (List Nat)))) (names ts)
      simp only [List.length_singleton]; omega) (by
      have := List.length_filter_le (fun f => !decide (f ∈ ([] : List (List Nat)))) (names ts)
      simp only [List.length_singleton]; omega) (by
      have := List.length_filter_le (fun f => !decide (f ∈ ([] : List (List Nat)))) (names ts)
      simp only [List.length_nil]; omega)
  have fl : ((names ts).filter fun f => decide (f ∈ fo)) = needN ts i t := by
    unfold needN
    refine List.filter_congr fun f _ => ?_
    exact decide_eq_decide.mpr ((al f).trans (need_iff g e).symm)
  have lc : ev P (run P n) (.lc (.nm 6) [6] (.seq (.var 0)) (.cmp .inn (.idx (.var 6) (.cst (.int 0))) (.var 3)) (.idx (.var 6) (.cst (.int 0)))) (dE h ts t.nm y5) (dH h ts fo []) = some (.lst ((needN ts i t).map D.str), dH h ts fo []) := by
    have q := lc_filter (h := dH h ts fo []) (tg := .nm 6) (c := ev P (run P n) (.cmp .inn (.idx (.var 6) (.cst (.int 0))) (.var 3))) (e := ev P (run P n) (.idx (.var 6) (.cst (.int 0)))) (δ := dE h ts t.nm y5) Tk.d (fun u => decide (u.nm ∈ fo)) (fun u => D.str u.nm) (xs := ts) fun u hu => ⟨(dE h ts t.nm y5).set 6 (some u.d), rfl, e_cmp (e_idx (e_var rfl) E_cst ix_tk0) (e_var rfl) (o_inC at1), e_idx (e_var rfl) E_cst ix_tk0⟩
    refine (e_lc (xs := ts.map Tk.d) (h1 := dH h ts fo []) (by rw [I_seq, e_var rfl]; rfl) (lim_big (by rw [List.length_map]; omega)) q).trans ?_
    rw [← fl, names, List.filter_map, List.map_map]
    rfl
  rw [run_go hN rfl]
  have st : exs P (run P n) W.b42 [some (.tup (ts.map Tk.d)), some (.str t.nm), none, none, none, none, none] h = some (.rt (.lst ((needN ts i t).map D.str)) (dH h ts fo [])) := by
    have wl : ex P (run P n) (.while (.emp true (.var 4)) bDfs) (dE h ts t.nm none) (dH h ts [] [t.nm]) = some (.nx (dE h ts t.nm y5) (dH h ts fo [])) := by
      simp only [ex]; exact lp
    unfold bDfs at wl
    unfold W.b42
    rw [Xs_cons, s1, Option.bind_some, thnO_nx, Xs_cons, wl, Option.bind_some, thnO_nx, Xs_cons, X_ret, lc]
    rfl
  show (exs P (run P n) W.b42 [some (.tup (ts.map Tk.d)), some (.str t.nm), none, none, none, none, none] h).bind (endO .clo h.length) = _
  rw [st, Option.bind_some, endO_rt]
  exact back_cut c (fun k => lows_str _)
end
end Q05

/-! needs and uses, by names -/
namespace Q05
open VI GB
noncomputable def needR (ts : List Tk) (x : List Nat) : List (List Nat) := (names ts).filter fun f => @decide (Rc ts x f) (Classical.propDecidable _)
noncomputable def useR (ts : List Tk) (x : List Nat) : List (List Nat) := (names ts).filter fun f => @decide (Rc ts f x) (Classical.propDecidable _)
section
variable {P : Pg} {n l d i : Nat} {h B : Hh} {ts : List Tk} {t : Tk} {x : List Nat}
theorem need_eq (g : GrOk [] ts) (e : ts[i]? = some t) : needN ts i t = needR ts t.nm := by
  unfold needN needR
  refine List.filter_congr fun f _ => ?_
  by_cases q : Rc ts t.nm f
  · simp [q, (need_iff g e).mpr q]
  · simp [q]; exact fun z => q ((need_iff g e).mp z)
theorem use_eq (g : GrOk [] ts) (e : ts[i]? = some t) : useN ts i t = useR ts t.nm := by
  unfold useN useR
  refine List.filter_congr fun f hf => ?_
  by_cases q : Rc ts f t.nm
  · simp [q, (use_iff g e hf).mpr q]
  · simp [q]; exact fun z => q ((use_iff g e hf).mp z)
theorem at_name (hx : x ∈ names ts) : ∃ (i : Nat) (t : Tk), ts[i]? = some t ∧ t.nm = x := by
  obtain ⟨t, m, e⟩ := List.mem_map.mp hx
  obtain ⟨i, hi⟩ := List.getElem?_of_mem m
  exact ⟨i, t, hi, e⟩
theorem n_needed (hN : P.defs[42]? = some ⟨.glob, none, 7, 2, .clo, W.b42⟩) (c : Cl h) (g : GrOk [] ts) (few : ts.length ≤ 20) (hx : x ∈ names ts) : run P (n + 1) 42 [.tup (ts.map Tk.d), .str x] h = some (.lst ((needR ts x).map D.str), h) := by
  obtain ⟨i, t, e, rfl⟩ := at_name hx
  rw [← need_eq g e]; exact t_needed hN c g few e
theorem n_needs (B : Bs P) (c : Cl h) (g : GrOk [] ts) (few : ts.length ≤ 20) (hl : h[l]? = some (gob ts)) (hx : x ∈ names ts) : run P (n + 3) 29 [.ref l, .str x] h = some (.tup ((needR ts x).map D.str), h) := by
  obtain ⟨i, t, e, rfl⟩ := at_name hx
  rw [← need_eq g e]; exact r_needs B c g few hl e
theorem n_uses (B : Bs P) (c : Cl h) (g : GrOk [] ts) (few : ts.length ≤ 20) (hl : h[l]? = some (gob ts)) (hx : x ∈ names ts) : run P (n + 3) 30 [.ref l, .str x] h = some (.tup ((useR ts x).map D.str), h) := by
  obtain ⟨i, t, e, rfl⟩ := at_name hx
  rw [← use_eq g e]; exact r_uses B c g few hl e
theorem mem_needR {y : List Nat} : y ∈ needR ts x ↔ y ∈ names ts ∧ Rc ts x y := by simp [needR]
theorem use_fil (hx : x ∈ names ts) : ((names ts).filter fun f => decide (x ∈ needR ts f)) = useR ts x := by
  unfold useR
  refine List.filter_congr fun f _ => ?_
  by_cases q : Rc ts f x
  · simp [q, mem_needR.mpr ⟨hx, q⟩]
  · simp [q]; exact fun z => q (mem_needR.mp z).2
theorem fil_one {α : Type} {p : α → Bool} {a : α} : ∀ {xs : List α}, xs.Nodup → a ∈ xs → (∀ y ∈ xs, p y = true ↔ y = a) → xs.filter p = [a]
  | [], _, m, _ => by simp at m
  | y :: xs, nd, m, hp => by
    have nd' := List.nodup_cons.mp nd
    by_cases e : y = a
    · subst e
      rw [List.filter_cons_of_pos ((hp y (by simp)).mpr rfl)]
      congr 1
      refine List.filter_eq_nil_iff.mpr fun z hz q => ?_
      have := (hp z (by simp [hz])).mp q
      subst this
      exact nd'.1 hz
    · rw [List.filter_cons_of_neg fun q => e ((hp y (by simp)).mp q)]
      exact fil_one nd'.2 (by simpa [Ne.symm e] using m) fun z hz => hp z (by simp [hz])
theorem need_self (g : GrOk [] ts) (e : ts[i]? = some t) (nf : t.feeds = []) : needR ts t.nm = [t.nm] := by
  refine fil_one g.nd.1 (List.mem_map.mpr ⟨t, List.mem_of_getElem? e, rfl⟩) fun y _ => ?_
  refine Iff.trans (@decide_eq_true_iff _ (Classical.propDecidable _)) ?_
  constructor
  · intro r
    rcases r.first with q | ⟨u, f, um, un, uf, _⟩
    · exact q.symm
    · obtain ⟨j, hj⟩ := List.getElem?_of_mem um
      have := g.uni hj e un
      subst this
      rw [e] at hj; cases hj
      rw [nf] at uf; simp at uf
  · rintro rfl; exact .here _
theorem ok_names (g : GrOk [] ts) {xs : List (List Nat)} (s : ∀ y ∈ xs, y ∈ names ts) : xs.all okS = true := List.all_eq_true.mpr fun y hy => by
  obtain ⟨i, t, e, rfl⟩ := at_name (s y hy)
  exact okS_name (g.at e).nm
theorem ok_need (g : GrOk [] ts) : (needR ts x).all okS = true := ok_names g fun y hy => (List.mem_filter.mp hy).1
theorem ok_use (g : GrOk [] ts) : (useR ts x).all okS = true := ok_names g fun y hy => (List.mem_filter.mp hy).1
theorem key_any {v : List Nat → D} : ∀ {ks : List (List Nat)}, x ∈ ks → keyAt (.str x) (ks.map D.str) (ks.map v) = some (v x)
  | [], m => by simp at m
  | k :: ks, m => by
    rw [List.map_cons, List.map_cons]
    by_cases e : k = x
    · subst e; exact keyAt_hit (eqv_strT rfl)
    · rw [keyAt_miss (eqv_strF e)]
      exact key_any (by simpa [Ne.symm e] using m)
theorem ix_any {v : List Nat → D} {ks : List (List Nat)} (hd : h[d]? = some (.dct (ks.map D.str) (ks.map v))) (m : x ∈ ks) : idxF h (.ref d) (.str x) = some (v x) := by
  show idxO h (.ref d) (.str x) = _
  simp only [idxO, lstOf, dctOf, hd]
  rw [keys_names, key_any m]; rfl
theorem o_inL {f : List Nat} {xs : List (List Nat)} : op2 h .inn (.str f) (.lst (xs.map D.str)) = some (.bl (decide (f ∈ xs))) := by
  have : inD h (.str f) (.lst (xs.map D.str)) = some (decide (f ∈ xs)) := by
    show (if flat (.str f) && (xs.map D.str).all flat then some ((xs.map D.str).any fun z => D.eqv z (.str f)) else none) = _
    rw [flats, any_dec]; rfl
  show (inD h (.str f) (.lst (xs.map D.str))).map D.bl = _
  rw [this]; rfl
theorem shw_strs : ∀ xs : List (List Nat), D.shws (xs.map D.str) = true
  | [] => rfl
  | x :: xs => by rw [List.map_cons, D.shws, shw_strs xs]; rfl
theorem wgt_strs : ∀ {xs : List (List Nat)}, (∀ y ∈ xs, y.length ≤ 8) → D.wgts (xs.map D.str) ≤ 9 * xs.length
  | [], _ => by simp [D.wgts]
  | x :: xs, a => by
    have := wgt_strs (xs := xs) fun y hy => a y (by simp [hy])
    have := a x (by simp)
    rw [List.map_cons, D.wgts, D.wgt, List.length_cons]; omega
theorem sames_strs : ∀ xs : List (List Nat), sames (xs.map D.str) (xs.map D.str) = true
  | [] => rfl
  | x :: xs => by simp [sames, same, sames_strs xs]
theorem same2 (xs ys : List (List Nat)) : same (.lst [.tup (xs.map D.str), .tup (ys.map D.str)]) (.lst [.tup (xs.map D.str), .tup (ys.map D.str)]) = true := by
  simp [same, sames, sames_strs]
theorem rep2 {xs ys : List (List Nat)} (o1 : xs.all okS = true) (o2 : ys.all okS = true) (a1 : ∀ y ∈ xs, y.length ≤ 8) (a2 : ∀ y ∈ ys, y.length ≤ 8) (l1 : xs.length ≤ 100) (l2 : ys.length ≤ 100) : repOk (.lst [.tup (xs.map D.str), .tup (ys.map D.str)]) = true := by
  have p : D.plain 50 (.lst [.tup (xs.map D.str), .tup (ys.map D.str)]) = true := by
    simp [D.plain, D.plains, plains_strs o1, plains_strs o2]
  have s : D.shw (.lst [.tup (xs.map D.str), .tup (ys.map D.str)]) = true := by
    simp [D.shw, D.shws, shw_strs]
  have w : D.wgt (.lst [.tup (xs.map D.str), .tup (ys.map D.str)]) ≤ 1000000 := by
    have := wgt_strs a1
    have := wgt_strs a2
    simp only [D.wgt, D.wgts]; omega
  unfold repOk
  rw [p, s, decide_eq_true w]; rfl
theorem o_eqE {xs : List (List Nat)} (o1 : xs.all okS = true) : op2 h .eq (.tup (xs.map D.str)) (.tup []) = some (.bl xs.isEmpty) := by
  cases xs with
  | nil => exact o_eqSs (xs := []) (ys := []) rfl rfl
  | cons a xs =>
    have h1 : D.plain 60 (.tup ((a :: xs).map D.str)) = true := plains_strs o1
    have h2 : D.eqv (.tup ((a :: xs).map D.str)) (.tup []) = false := rfl
    show (eqD _ _).map _ = _
    unfold eqD
    rw [h1, h2]; rfl
theorem e_methK1 {Φ : Fn} {δ : Ev} {a b : E} {f cc : Nat} {fs : List (Nat × D)} {df : DefI} {o v d' : D} {h1 h2 h3 : Hh} {l' : Nat} (ha : ev P Φ a δ h = some (o, h1)) (hi : insAt h1 o = some (l', cc, fs)) (hs : ev P Φ b δ h1 = some (v, h2)) (hd : P.defs[f]? = some df) (hc : df.cls = some cc) (e : Φ f [o, v] h2 = some (d', h3)) : ev P Φ (.methK f a (.cons b .nil) [0, 1]) δ h = some (d', h3) := by
  rw [E_methK, ha, Option.bind_some, hi, Option.bind_some, es_cons hs es_nil, Option.bind_some]
  simp only [hd, hc, if_true]
  exact e
end
end Q05

/-! _law_is_right: one name -/
namespace Q05
open VI GB
def bTurn : SL :=
  (.cons (.asg (.nm 6) (.lc (.nm 8) [8] (.seq (.var 5)) (.cmp .inn (.var 3) (.idx (.var 2) (.var 8))) (.var 8)))
   (.cons (.ite (.eqR true (.lst (.cons (.meth 29 (.var 4) (.cons (.var 3) .nil)) (.cons (.meth 30 (.var 4) (.cons (.var 3) .nil)) .nil))) (.lst (.cons (.bi .tuple (.cons (.idx (.var 2) (.var 3)) .nil)) (.cons (.bi .tuple (.cons (.var 6) .nil)) .nil))))
    (.cons (.ret (.cst (.bl false)))
     .nil)
    .nil)
   (.cons (.ite (.orV (.cmp .ne (.methK 29 (.var 4) (.cons (.var 3) .nil) [0, 1]) (.bi .tuple (.cons (.idx (.var 2) (.var 3)) .nil))) (.cmp .ne (.methK 30 (.var 4) (.cons (.var 3) .nil) [0, 1]) (.bi .tuple (.cons (.var 6) .nil))))
    (.cons (.ret (.cst (.bl false)))
     .nil)
    .nil)
   (.cons (.ite (.andV (.cmp .eq (.meth 21 (.var 4) (.cons (.var 3) .nil)) (.tup .nil)) (.cmp .ne (.meth 29 (.var 4) (.cons (.var 3) .nil)) (.tup (.cons (.var 3) .nil))))
    (.cons (.ret (.cst (.bl false)))
     .nil)
    .nil)
   .nil))))
section
variable {P : Pg} {n l i : Nat} {h : Hh} {ts : List Tk} {t : Tk} {x : List Nat}
noncomputable def nD (ts : List Tk) : Ob := .dct ((names ts).map D.str) ((names ts).map fun x => .lst ((needR ts x).map D.str))
noncomputable def rH (h : Hh) (ts : List Tk) : Hh := h ++ [gob ts, nD ts]
def rE (l : Nat) (h : Hh) (ts : List Tk) (x3 x6 : Option D) : Ev := [some (.ref l), some (.tup (ts.map Tk.d)), some (.ref (h.length + 1)), x3, some (.ref h.length), some (.lst ((names ts).map D.str)), x6, none, none]
theorem low_nD {k : Nat} : Ob.low k (nD ts) = true := by
  have b : ∀ xs : List (List Nat), D.lows k (xs.map fun x => D.lst ((needR ts x).map D.str)) = true := by
    intro xs
    induction xs with
    | nil => rfl
    | cons x xs ih =>
      rw [List.map_cons, D.lows, ih]
      have : D.low k (.lst ((needR ts x).map D.str)) = true := lows_str _
      rw [this]; rfl
  show (D.lows k ((names ts).map D.str) && D.lows k ((names ts).map fun x => D.lst ((needR ts x).map D.str))) = true
  rw [b, lows_str]; rfl
theorem cl_rH (c : Cl h) : Cl (rH h ts) := by
  have c1 : Cl (h ++ [gob ts]) := clApp c low_gob
  have c2 : Cl (h ++ [gob ts] ++ [nD ts]) := clApp c1 low_nD
  rw [List.append_assoc] at c2
  exact c2
theorem rH0 : (rH h ts)[h.length]? = some (gob ts) := two0
theorem rH1 : (rH h ts)[h.length + 1]? = some (nD ts) := two1
theorem turn (B : Bs P) (c : Cl h) (g : GrOk [] ts) (few : ts.length ≤ 20) (e : ts[i]? = some t) {x6 : Option D} : exs P (run P (n + 3)) bTurn (rE l h ts (some (.str t.nm)) x6) (rH h ts) = some (.nx (rE l h ts (some (.str t.nm)) (some (.lst ((useR ts t.nm).map D.str)))) (rH h ts)) := by
  have cH := cl_rH (ts := ts) c
  have nl : (names ts).length = ts.length := by simp [names]
  have hx : t.nm ∈ names ts := List.mem_map.mpr ⟨t, List.mem_of_getElem? e, rfl⟩
  have ixn : ∀ y ∈ names ts, idxF (rH h ts) (.ref (h.length + 1)) (.str y) = some (.lst ((needR ts y).map D.str)) := fun y hy => ix_any (v := fun x => .lst ((needR ts x).map D.str)) rH1 hy
  have s1 : ex P (run P (n + 3)) (.asg (.nm 6) (.lc (.nm 8) [8] (.seq (.var 5)) (.cmp .inn (.var 3) (.idx (.var 2) (.var 8))) (.var 8))) (rE l h ts (some (.str t.nm)) x6) (rH h ts) = some (.nx (rE l h ts (some (.str t.nm)) (some (.lst ((useR ts t.nm).map D.str)))) (rH h ts)) := by
    refine x_asg (x := .lst ((useR ts t.nm).map D.str)) ?_ rfl
    have q := lc_filter (h := rH h ts) (tg := .nm 8) (c := ev P (run P (n + 3)) (.cmp .inn (.var 3) (.idx (.var 2) (.var 8)))) (e := ev P (run P (n + 3)) (.var 8)) (δ := rE l h ts (some (.str t.nm)) x6) D.str (fun f => decide (t.nm ∈ needR ts f)) D.str (xs := names ts) fun f hf => ⟨(rE l h ts (some (.str t.nm)) x6).set 8 (some (.str f)), rfl, e_cmp (e_var rfl) (e_idx (e_var rfl) (e_var rfl) (ixn f hf)) o_inL, e_var rfl⟩
    refine (e_lc (xs := (names ts).map D.str) (h1 := rH h ts) (by rw [I_seq, e_var rfl]; rfl) (lim_big (by rw [List.length_map]; omega)) q).trans ?_
    rw [use_fil hx]
  obtain ⟨δ, eδ⟩ : ∃ δ, δ = rE l h ts (some (.str t.nm)) (some (.lst ((useR ts t.nm).map D.str))) := ⟨_, rfl⟩
  have v2 : ev P (run P (n + 3)) (.var 2) δ (rH h ts) = some (.ref (h.length + 1), rH h ts) := by rw [eδ]; exact e_var rfl
  have v3 : ev P (run P (n + 3)) (.var 3) δ (rH h ts) = some (.str t.nm, rH h ts) := by rw [eδ]; exact e_var rfl
  have v4 : ev P (run P (n + 3)) (.var 4) δ (rH h ts) = some (.ref h.length, rH h ts) := by rw [eδ]; exact e_var rfl
  have v6 : ev P (run P (n + 3)) (.var 6) δ (rH h ts) = some (.lst ((useR ts t.nm).map D.str), rH h ts) := by rw [eδ]; exact e_var rfl
  have m29 : ev P (run P (n + 3)) (.meth 29 (.var 4) (.cons (.var 3) .nil)) δ (rH h ts) = some (.tup ((needR ts t.nm).map D.str), rH h ts) := e_meth v4 (ins_g rH0) (es_cons v3 es_nil) (B.d 29 _ rfl) rfl (n_needs B cH g few rH0 hx)
  have m30 : ev P (run P (n + 3)) (.meth 30 (.var 4) (.cons (.var 3) .nil)) δ (rH h ts) = some (.tup ((useR ts t.nm).map D.str), rH h ts) := e_meth v4 (ins_g rH0) (es_cons v3 es_nil) (B.d 30 _ rfl) rfl (n_uses B cH g few rH0 hx)
  have k29 : ev P (run P (n + 3)) (.methK 29 (.var 4) (.cons (.var 3) .nil) [0, 1]) δ (rH h ts) = some (.tup ((needR ts t.nm).map D.str), rH h ts) := e_methK1 v4 (ins_g rH0) v3 (B.d 29 _ rfl) rfl (n_needs B cH g few rH0 hx)
  have k30 : ev P (run P (n + 3)) (.methK 30 (.var 4) (.cons (.var 3) .nil) [0, 1]) δ (rH h ts) = some (.tup ((useR ts t.nm).map D.str), rH h ts) := e_methK1 v4 (ins_g rH0) v3 (B.d 30 _ rfl) rfl (n_uses B cH g few rH0 hx)
  have m21 : ev P (run P (n + 3)) (.meth 21 (.var 4) (.cons (.var 3) .nil)) δ (rH h ts) = some (.tup (t.feeds.map D.str), rH h ts) := e_meth v4 (ins_g rH0) (es_cons v3 es_nil) (B.d 21 _ rfl) rfl (r_feeds B rH0 g.nd.1 e)
  have tn : ev P (run P (n + 3)) (.bi .tuple (.cons (.idx (.var 2) (.var 3)) .nil)) δ (rH h ts) = some (.tup ((needR ts t.nm).map D.str), rH h ts) := e_bi (es_cons (e_idx v2 v3 (ixn _ hx)) es_nil) rfl
  have tu : ev P (run P (n + 3)) (.bi .tuple (.cons (.var 6) .nil)) δ (rH h ts) = some (.tup ((useR ts t.nm).map D.str), rH h ts) := e_bi (es_cons v6 es_nil) rfl
  have sh : ∀ y ∈ names ts, y.length ≤ 8 := fun y hy => by
    obtain ⟨j, u, eu, rfl⟩ := at_name hy
    exact (g.at eu).nm.2.1
  have c1 : ev P (run P (n + 3)) (.eqR true (.lst (.cons (.meth 29 (.var 4) (.cons (.var 3) .nil)) (.cons (.meth 30 (.var 4) (.cons (.var 3) .nil)) .nil))) (.lst (.cons (.bi .tuple (.cons (.idx (.var 2) (.var 3)) .nil)) (.cons (.bi .tuple (.cons (.var 6) .nil)) .nil)))) δ (rH h ts) = some (.bl false, rH h ts) := by
    have r := rep2 (xs := needR ts t.nm) (ys := useR ts t.nm) (ok_need g) (ok_use g) (fun y hy => sh y (List.mem_filter.mp hy).1) (fun y hy => sh y (List.mem_filter.mp hy).1) (Nat.le_trans (List.length_filter_le _ _) (by omega)) (Nat.le_trans (List.length_filter_le _ _) (by omega))
    rw [E_eqR, e_lst (es_cons m29 (es_cons m30 es_nil)), Option.bind_some, e_lst (es_cons tn (es_cons tu es_nil)), Option.bind_some]
    show (if (repOk (.lst [.tup ((needR ts t.nm).map D.str), .tup ((useR ts t.nm).map D.str)]) && same (.lst [.tup ((needR ts t.nm).map D.str), .tup ((useR ts t.nm).map D.str)]) (.lst [.tup ((needR ts t.nm).map D.str), .tup ((useR ts t.nm).map D.str)])) = true then some (D.bl !true, rH h ts) else none) = _
    rw [r, same2]; rfl
  have c2 : ev P (run P (n + 3)) (.orV (.cmp .ne (.methK 29 (.var 4) (.cons (.var 3) .nil) [0, 1]) (.bi .tuple (.cons (.idx (.var 2) (.var 3)) .nil))) (.cmp .ne (.methK 30 (.var 4) (.cons (.var 3) .nil) [0, 1]) (.bi .tuple (.cons (.var 6) .nil)))) δ (rH h ts) = some (.bl false, rH h ts) := by
    rw [e_orF (e_cmp k29 tn (o_neS rfl (ok_need g)))]
    exact e_cmp k30 tu (o_neS rfl (ok_use g))
  have c3 : ev P (run P (n + 3)) (.andV (.cmp .eq (.meth 21 (.var 4) (.cons (.var 3) .nil)) (.tup .nil)) (.cmp .ne (.meth 29 (.var 4) (.cons (.var 3) .nil)) (.tup (.cons (.var 3) .nil)))) δ (rH h ts) = some (.bl false, rH h ts) := by
    have q := e_cmp m21 (e_tup es_nil) (o_eqE (h := rH h ts) (ok_names g (g.fed e)))
    by_cases nf : t.feeds = []
    · rw [show t.feeds.isEmpty = true by rw [nf]; rfl] at q
      rw [e_andT q]
      exact e_cmp m29 (e_tup (es_cons v3 es_nil)) (o_neS (ys := [t.nm]) (need_self g e nf) (ok_need g))
    · rw [show t.feeds.isEmpty = false by cases hf : t.feeds with
        | nil => exact absurd hf nf
        | cons _ _ => rfl] at q
      exact e_andF q
  rw [← eδ] at s1 ⊢
  unfold bTurn
  rw [Xs_cons, s1, Option.bind_some, thnO_nx, Xs_cons, x_iteF c1, Xs_nil, Option.bind_some, thnO_nx, Xs_cons, x_iteF c2, Xs_nil, Option.bind_some, thnO_nx, Xs_cons, x_iteF c3, Xs_nil, Option.bind_some, thnO_nx, Xs_nil]
end
end Q05

/-! _law_is_right, whole -/
namespace Q05
open VI GB
section
variable {P : Pg} {n l k : Nat} {h : Hh} {ts : List Tk}
theorem l_turn (B : Bs P) (c : Cl h) (g : GrOk [] ts) (few : ts.length ≤ 20) : ∀ {us : List Tk} {x3 x6 : Option D}, (∀ u ∈ us, u ∈ ts) → ∃ y3 y6, forLoop (.nm 3) (exs P (run P (n + 3)) bTurn) ((names us).map D.str) (rE l h ts x3 x6) (rH h ts) = some (.nx (rE l h ts y3 y6) (rH h ts))
  | [], x3, x6, _ => ⟨x3, x6, rfl⟩
  | u :: us, x3, x6, s => by
    obtain ⟨i, e⟩ := List.getElem?_of_mem (s u (by simp))
    have t := turn (n := n) (l := l) B c g few e (x6 := x6)
    obtain ⟨y3, y6, ih⟩ := l_turn B c g few (us := us) (x3 := some (.str u.nm)) (x6 := some (.lst ((useR ts u.nm).map D.str))) fun v hv => s v (by simp [hv])
    refine ⟨y3, y6, ?_⟩
    rw [names, List.map_cons, List.map_cons, for_nx (δ1 := rE l h ts (some (.str u.nm)) x6) rfl t]
    exact ih
theorem right (B : Bs P) (Z : Ds P) (h38 : P.defs[38]? = some ⟨.glob, none, 9, 2, .clo, bNames⟩) (h39 : P.defs[39]? = some ⟨.glob, none, 12, 4, .clo, bTasks⟩) (h41 : P.defs[41]? = some ⟨.glob, none, 9, 1, .clo, W.b41⟩) (h42 : P.defs[42]? = some ⟨.glob, none, 7, 2, .clo, W.b42⟩) (c : Cl h) (p : Pot h l k) (hk : k + 500 ≤ 900000) :
    ∃ h', run P (n + 28) 41 [.ref l] h = some (.bl true, h') ∧ DR h l (k + 500) h' := by
  obtain ⟨r, g0, q0, r1, d0⟩ := t_take (n := n + 26) Z p (by omega) (u := 12) (by decide) (by decide)
  have c0 := d0.cl c
  have cs : cS 0 = 18 := by decide
  obtain ⟨ns, ts, es, g1, nl, nd, ok, tl, el, al, q1, d1⟩ := t_tasks (n := n + 20) (m := 1 + r) (most := 3) (d := 0) (f := 5) Z h38 h39 (by omega) (by decide) (by decide) (fun j hj => (t_sums Z (by simp [letters]) (by simp [letters]; omega)).1) (by decide) (by decide) c0 d0.pot (by rw [cs]; omega)
  have g : GrOk [] ts := by
    have := drawn_gr (j := 0) (by decide) (by decide) nd ok (es := es) (ts := ts) (most := 3) (d := 0) (by omega) (fun i t e h1 h2 => by rw [Nat.zero_add]; exact al i t e h1 h2)
    simpa using this
  have dr := (d0.trans d1).mono (show k + 1 + 20 + (1 + r) * (cS 0 + 20) ≤ k + 500 by
    rw [cs]; omega)
  have c1 := dr.cl c
  have few : ts.length ≤ 20 := by omega
  refine ⟨g1, ?_, dr⟩
  have s1 : ex P (run P (n + 27)) (.asg (.nm 1) (.call 39 (.cons (.var 0) (.cons (.bin .add (.cst (.int 1)) (.call 32 (.cons (.var 0) (.cons (.cst (.int 12)) .nil)))) (.cons (.cst (.int 3)) (.cons (.cst (.int 0)) .nil)))))) [some (.ref l), none, none, none, none, none, none, none, none] h = some (.nx [some (.ref l), some (.tup (ts.map Tk.d)), none, none, none, none, none, none, none] g1) := by
    have a : ev P (run P (n + 27)) (.bin .add (.cst (.int 1)) (.call 32 (.cons (.var 0) (.cons (.cst (.int 12)) .nil)))) [some (.ref l), none, none, none, none, none, none, none, none] h = some (.int ((1 + r : Nat) : Int), g0) := by
      refine (e_bin E_cst (e_call (es_cons (e_var rfl) (es_cons E_cst es_nil)) q0) o_add).trans ?_
      rw [show (1 : Int) + (r : Int) = ((1 + r : Nat) : Int) by omega]
    exact x_asg (e_call (es_cons (e_var rfl) (es_cons a (es_cons E_cst (es_cons E_cst es_nil)))) q1) rfl
  have s2 : ex P (run P (n + 27)) (.par 4 5 (.make 17 (.cons (.var 1) .nil)) (.lc (.nm 7) [7] (.seq (.var 1)) (.cst (.bl true)) (.idx (.var 7) (.cst (.int 0))))) [some (.ref l), some (.tup (ts.map Tk.d)), none, none, none, none, none, none, none] g1 = some (.nx [some (.ref l), some (.tup (ts.map Tk.d)), none, none, some (.ref g1.length), some (.lst ((names ts).map D.str)), none, none, none] (g1 ++ [gob ts])) := by
    refine x_par (e_graph B c1 (e_var rfl) g (by omega) few) (y := .lst ((names ts).map D.str)) ?_
    refine (e_lc (xs := ts.map Tk.d) (h1 := g1 ++ [gob ts]) (by rw [I_seq, e_var rfl]; rfl) (lim_big (by rw [List.length_map]; omega)) (lc_fun Tk.d (fun t => D.str t.nm) fun u hu => ⟨[some (.ref l), some (.tup (ts.map Tk.d)), none, none, none, none, none, some u.d, none], rfl, E_cst, e_idx (e_var rfl) E_cst ix_tk0⟩)).trans ?_
    rw [names, List.map_map]; rfl
  have cg : Cl (g1 ++ [gob ts]) := clApp c1 low_gob
  have s3 : ex P (run P (n + 27)) (.asg (.nm 2) (.dpr (.lc (.nm 3) [3] (.seq (.var 5)) (.cst (.bl true)) (.tup (.cons (.var 3) (.cons (.call 42 (.cons (.var 1) (.cons (.var 3) .nil))) .nil)))))) [some (.ref l), some (.tup (ts.map Tk.d)), none, none, some (.ref g1.length), some (.lst ((names ts).map D.str)), none, none, none] (g1 ++ [gob ts]) = some (.nx (rE l g1 ts none none) (rH g1 ts)) := by
    have lc : ev P (run P (n + 27)) (.lc (.nm 3) [3] (.seq (.var 5)) (.cst (.bl true)) (.tup (.cons (.var 3) (.cons (.call 42 (.cons (.var 1) (.cons (.var 3) .nil))) .nil)))) [some (.ref l), some (.tup (ts.map Tk.d)), none, none, some (.ref g1.length), some (.lst ((names ts).map D.str)), none, none, none] (g1 ++ [gob ts]) = some (.lst ((names ts).map fun x => D.tup [.str x, .lst ((needR ts x).map D.str)]), g1 ++ [gob ts]) :=
      e_lc (xs := (names ts).map D.str) (h1 := g1 ++ [gob ts]) (by rw [I_seq, e_var rfl]; rfl) (lim_big (by rw [List.length_map, names, List.length_map]; omega)) (lc_fun D.str (fun x => D.tup [.str x, .lst ((needR ts x).map D.str)]) fun x hx => ⟨[some (.ref l), some (.tup (ts.map Tk.d)), none, some (.str x), some (.ref g1.length), some (.lst ((names ts).map D.str)), none, none, none], rfl, E_cst, e_tup (es_cons (e_var rfl) (es_cons (e_call (es_cons (e_var rfl) (es_cons (e_var rfl) es_nil)) (n_needed (n := n + 26) h42 cg g few hx)) es_nil))⟩)
    have dp := e_dpr (nm := fun x => x) (v := fun x => D.lst ((needR ts x).map D.str)) (xs := names ts) (by rw [List.map_id']; exact g.nd.1) lc
    rw [List.map_id', List.append_assoc] at dp
    refine x_asg dp ?_
    simp [put, rE]
  obtain ⟨y3, y6, lp⟩ := l_turn (n := n + 24) (l := l) B c1 g few (us := ts) (x3 := none) (x6 := none) fun u hu => hu
  have fl : ex P (run P (n + 27)) (.for (.nm 3) (.seq (.var 5)) bTurn) (rE l g1 ts none none) (rH g1 ts) = some (.nx (rE l g1 ts y3 y6) (rH g1 ts)) := x_for (xs := (names ts).map D.str) (h1 := rH g1 ts) (by rw [I_seq, e_var rfl]; rfl) lp
  have st : exs P (run P (n + 27)) W.b41 [some (.ref l), none, none, none, none, none, none, none, none] h = some (.rt (.bl true) (rH g1 ts)) := by
    unfold bTurn at fl
    unfold W.b41
    rw [Xs_cons, s1, Option.bind_some, thnO_nx, Xs_cons, s2, Option.bind_some, thnO_nx, Xs_cons, s3, Option.bind_some, thnO_nx, Xs_cons, fl, Option.bind_some, thnO_nx, Xs_cons, X_ret, E_cst]
    rfl
  refine (run_go (n := n + 27) (ds := [.ref l]) (h := h) h41 rfl).trans ?_
  show (exs P (run P (n + 27)) W.b41 [some (.ref l), none, none, none, none, none, none, none, none] h).bind (endO .clo h.length) = _
  rw [st, Option.bind_some, endO_rt, ← dr.len]
  exact back_cut c1 (fun j => rfl)
end
end Q05

/-! k05: the law -/
namespace Q05
open VI GB
section
variable {n : Nat} {g h : Hh} {ns : List Int} {l k : Nat}
theorem bs : Bs W.Pr := by
  have e1 : W.Pr.defs = GB.defs ++ W.Pr.defs.drop 31 := by kernel_rfl
  have e2 : W.Pr.consts = GB.consts := by kernel_rfl
  exact ⟨fun i d h => by rw [e1, List.getElem?_append_left (List.getElem?_eq_some_iff.mp h).1]; exact h, fun i d h => by rw [e2]; exact h⟩
theorem zs : Ds W.Pr := ⟨by kernel_rfl, by kernel_rfl, by kernel_rfl, by kernel_rfl, by kernel_rfl, by kernel_rfl, by kernel_rfl⟩
theorem rightP (c : Cl h) (p : Pot h l k) (hk : k + 500 ≤ 900000) : ∃ h', run W.Pr (n + 28) 41 [.ref l] h = some (.bl true, h') ∧ DR h l (k + 500) h' :=
  right bs zs (by kernel_rfl) (by kernel_rfl) (by kernel_rfl) (by kernel_rfl) c p hk
theorem l_four {δ : Ev} (d2 : ∀ x : D, look (δ.set 3 (some x)) 2 = some (.ref l)) : ∀ {its : List D} {h : Hh} {k : Nat}, Cl h → Pot h l k → k + its.length * 500 ≤ 900000 → ∃ h', lcLoop (.nm 3) (ev W.Pr (run W.Pr (n + 28)) (.cst (.bl true))) (ev W.Pr (run W.Pr (n + 28)) (.callG 41 (.cons (.var 2) .nil))) δ its h = some ((its.map fun _ => true).map D.bl, h') ∧ DR h l (k + its.length * 500) h'
  | [], h, k, c, p, _ => ⟨h, rfl, by simpa using DR.rfl p⟩
  | x :: its, h, k, c, p, hk => by
    have hk' : k + (its.length + 1) * 500 ≤ 900000 := by simpa using hk
    obtain ⟨h1, e1, r1⟩ := rightP (n := n) c p (by omega)
    obtain ⟨h2, e2, r2⟩ := l_four d2 (its := its) (r1.cl c) r1.pot (by omega)
    refine ⟨h2, ?_, (r1.trans r2).mono (by rw [List.length_cons]; omega)⟩
    have cl : ev W.Pr (run W.Pr (n + 28)) (.callG 41 (.cons (.var 2) .nil)) (δ.set 3 (some x)) h = some (.bl true, h1) := by
      rw [E_callG, es_cons (e_var (d2 x)) es_nil, Option.bind_some]
      exact e1
    simp only [lcLoop, put, Option.bind_some, E_cst, cl, e2, Option.map_some, List.map_cons]
def bLaw : SL :=
  (.cons (.asg (.nm 2) (.call 31 (.cons (.var 0) (.cons (.var 1) .nil))))
   (.cons (.ite (.notV (.bi .all (.cons (.lc (.nm 3) [3] (.range1 (.cst (.int 4))) (.cst (.bl true)) (.callG 41 (.cons (.var 2) .nil))) .nil)))
    (.cons (.ret (.cst (.bl false)))
     .nil)
    .nil)
   .nil))
theorem turn_law (c : Cl g) {k : Nat} (hk : k ≤ 3) {x2 : Option D} : ∃ g', exs W.Pr (run W.Pr (n + 28)) bLaw [some (.scr (ns.map D.int)), some (.int k), x2, none] g = some (.nx [some (.scr (ns.map D.int)), some (.int k), some (.ref g.length), none] g') ∧ Cl g' := by
  obtain ⟨o, e1, p, lo⟩ := d_pot (P := W.Pr) (n := n + 27) (h := g) (ns := ns) (k := k) zs.pot hk
  have c1 : Cl (g ++ [o]) := clApp c (lo _)
  have s1 : ex W.Pr (run W.Pr (n + 28)) (.asg (.nm 2) (.call 31 (.cons (.var 0) (.cons (.var 1) .nil)))) [some (.scr (ns.map D.int)), some (.int k), x2, none] g = some (.nx [some (.scr (ns.map D.int)), some (.int k), some (.ref g.length), none] (g ++ [o])) := x_asg (e_call (es_cons (e_var rfl) (es_cons (e_var rfl) es_nil)) e1) rfl
  obtain ⟨g1, lp, d1⟩ := l_four (n := n) (l := g.length) (δ := [some (.scr (ns.map D.int)), some (.int k), some (.ref g.length), none]) (fun _ => rfl) (its := rangeL 0 4) c1 p (by decide)
  have a : ev W.Pr (run W.Pr (n + 28)) (.notV (.bi .all (.cons (.lc (.nm 3) [3] (.range1 (.cst (.int 4))) (.cst (.bl true)) (.callG 41 (.cons (.var 2) .nil))) .nil))) [some (.scr (ns.map D.int)), some (.int k), some (.ref g.length), none] (g ++ [o]) = some (.bl false, g1) := by
    have q := e_lc (P := W.Pr) (Φ := run W.Pr (n + 28)) (tg := .nm 3) (own := [3]) (it := .range1 (.cst (.int 4))) (b := .cst (.bl true)) (c := .callG 41 (.cons (.var 2) .nil)) (δ := [some (.scr (ns.map D.int)), some (.int k), some (.ref g.length), none]) (h := g ++ [o]) (xs := rangeL 0 4) (h1 := g ++ [o]) (i_rng1 E_cst rfl) (by decide) lp
    have r := e_not (e_allL q)
    rw [show (!((rangeL 0 4).map fun _ => true).all id) = false by decide] at r
    exact r
  refine ⟨g1, ?_, d1.cl c1⟩
  unfold bLaw
  rw [Xs_cons, s1, Option.bind_some, thnO_nx, Xs_cons, x_iteF a, Xs_nil, Option.bind_some, thnO_nx, Xs_nil]
theorem l_law : ∀ {ks : List Nat} {g : Hh} {x1 x2 : Option D}, (∀ k ∈ ks, k ≤ 3) → Cl g → ∃ x1' x2' g', forLoop (.nm 1) (exs W.Pr (run W.Pr (n + 28)) bLaw) (ks.map fun (k : Nat) => D.int (k : Int)) [some (.scr (ns.map D.int)), x1, x2, none] g = some (.nx [some (.scr (ns.map D.int)), x1', x2', none] g')
  | [], g, x1, x2, _, _ => ⟨x1, x2, g, rfl⟩
  | k :: ks, g, x1, x2, hk, c => by
    obtain ⟨g1, e1, c1⟩ := turn_law (n := n) (ns := ns) c (hk k (by simp)) (x2 := x2)
    obtain ⟨x1', x2', g', ih⟩ := l_law (ks := ks) (g := g1) (x1 := some (.int k)) (x2 := some (.ref g.length)) (fun j hj => hk j (by simp [hj])) c1
    exact ⟨x1', x2', g', by rw [List.map_cons, for_nx (δ1 := [some (.scr (ns.map D.int)), some (.int k), x2, none]) rfl e1, ih]⟩
theorem rng_law {m : Nat} : rangeL 0 (m : Int) = (List.range m).map fun (k : Nat) => D.int (k : Int) := by
  unfold rangeL
  rw [show ((m : Int) - 0).toNat = m by omega]
  exact List.map_congr_left fun k _ => by congr 1; omega
theorem plain (hl : ns.length ≤ 63) : ∃ h', run W.Pr (n + 29) 40 [.scr (ns.map D.int)] [] = some (.bl true, h') := by
  obtain ⟨m, hm, hm1⟩ : ∃ m : Nat, m ≤ 3 ∧ (m : Int) = if (if (ns.length : Int) < 3 then (ns.length : Int) else 3) > 1 then (if (ns.length : Int) < 3 then (ns.length : Int) else 3) else 1 := by
    refine ⟨if ns.length < 2 then 1 else if ns.length < 3 then 2 else 3, by split <;> (try split) <;> omega, ?_⟩
    split <;> split <;> (try split) <;> (try split) <;> omega
  obtain ⟨x1, x2, g', lp⟩ := l_law (n := n) (ns := ns) (ks := List.range m) (g := []) (x1 := none) (x2 := none) (fun k hk => by have := List.mem_range.mp hk; omega) rfl
  rw [← rng_law] at lp
  have it : evI W.Pr (run W.Pr (n + 28)) (.range1 (.bi .max (.cons (.cst (.int 1)) (.cons (.bi .min (.cons (.cst (.int 3)) (.cons (.bi .len (.cons (.var 0) .nil)) .nil))) .nil)))) [some (.scr (ns.map D.int)), none, none, none] [] = some (rangeL 0 (m : Int), []) := by
    refine i_rng1 (e_bi (es_cons E_cst (es_cons (e_bi (es_cons E_cst (es_cons (e_bi (es_cons (e_var rfl) es_nil) bi_lenS) es_nil)) bi_min) es_nil)) ?_) (within_nat (by omega))
    rw [bi_max, List.length_map, hm1]
  have fl : ex W.Pr (run W.Pr (n + 28)) (.for (.nm 1) (.range1 (.bi .max (.cons (.cst (.int 1)) (.cons (.bi .min (.cons (.cst (.int 3)) (.cons (.bi .len (.cons (.var 0) .nil)) .nil))) .nil)))) bLaw) [some (.scr (ns.map D.int)), none, none, none] [] = some (.nx [some (.scr (ns.map D.int)), x1, x2, none] g') := x_for it lp
  have hd : W.Pr.defs[40]? = some ⟨.glob, none, 4, 1, .clo, W.b40⟩ := by kernel_rfl
  have st : exs W.Pr (run W.Pr (n + 28)) W.b40 [some (.scr (ns.map D.int)), none, none, none] [] = some (.rt (.bl true) g') := by
    unfold W.b40
    have fl' := fl
    unfold bLaw at fl'
    rw [Xs_cons, fl', Option.bind_some, thnO_nx, Xs_cons, X_ret, E_cst]
    rfl
  refine ⟨[], ?_⟩
  refine (run_go (n := n + 28) (ds := [.scr (ns.map D.int)]) (h := []) hd rfl).trans ?_
  show (exs W.Pr (run W.Pr (n + 28)) W.b40 [some (.scr (ns.map D.int)), none, none, none] []).bind (endO .clo 0) = _
  rw [st]
  exact back_cut (h := []) (t := g') rfl (fr_of_flat (d := .bl true) rfl)
end
end Q05

/-! VI, part B: what plain data and the small heap stand for. -/
namespace VI
open PySem L2
def toS (s : List Nat) : Str := ⟨s.toArray⟩
theorem toS_cps (s : List Nat) : (toS s).cps.toList = s := by simp [toS]
theorem toS_len (s : List Nat) : (toS s).length = s.length := by simp [toS, Str.length]
theorem toS_of (x : Str) : toS x.cps.toList = x := by cases x; simp [toS]
theorem toS_inj {a b : List Nat} (h : toS a = toS b) : a = b := by
  have := congrArg (fun x : Str => x.cps.toList) h
  simpa [toS_cps] using this
def keyD : Key → D
  | .inl i => .int i
  | .inr x => .str x.cps.toList
/-- what the run's own names stand for: classes, fields -/
structure Nm where
  ca : Nat → Addr
  fn : Nat → Str
  inj : ∀ i j, fn i = fn j → i = j
/-- where the cells lie, and what stands for ever -/
structure Vw where
  ρ : List Addr
  F : Hp
def Ex (H H' : Hp) : Prop := ∀ a o, H a = some o → H' a = some o
theorem Ex.rfl {H : Hp} : Ex H H := fun _ _ h => h
theorem Ex.trans {H H1 H2 : Hp} (a : Ex H H1) (b : Ex H1 H2) : Ex H H2 := fun x o h => b x o (a x o h)
theorem Ex.rd {H H' : Hp} (e : Ex H H') {a : Addr} {o : HO} (h : Rd H a o) : Rd H' a o := by
  rcases h with h | ⟨ob, h⟩
  · exact .inl (e _ _ h)
  · exact .inr ⟨ob, e _ _ h⟩
theorem Ex.sqL {K : PySem.W.Frag} {H H' : Hp} (e : Ex H H') {a : Addr} {xs : List V} (h : SqL K H a xs) : SqL K H' a xs := by
  rcases h with h | h
  · exact .inl (e.rd h)
  · exact .inr h
theorem Ex.sqT {K : PySem.W.Frag} {H H' : Hp} (e : Ex H H') {a : Addr} {xs : List V} (h : SqT K H a xs) : SqT K H' a xs := by
  rcases h with h | h
  · exact .inl (e.rd h)
  · exact .inr h
theorem Ex.none {H H' : Hp} (e : Ex H H') {a : Addr} (h : H' a = Option.none) : H a = Option.none := by
  cases q : H a with
  | none => rfl
  | some o => rw [e a o q] at h; cases h
structure Vw.Le (a b : Vw) : Prop where
  pre : ∃ t, b.ρ = a.ρ ++ t
  ex : Ex a.F b.F
theorem Vw.Le.rfl {a : Vw} : a.Le a := ⟨⟨[], by simp⟩, Ex.rfl⟩
theorem Vw.Le.trans {a b c : Vw} (x : a.Le b) (y : b.Le c) : a.Le c := by
  obtain ⟨t, h1⟩ := x.pre
  obtain ⟨u, h2⟩ := y.pre
  exact ⟨⟨t ++ u, by rw [h2, h1, List.append_assoc]⟩, x.ex.trans y.ex⟩
theorem Vw.Le.at {a b : Vw} (x : a.Le b) {l : Nat} {p : Addr} (h : a.ρ[l]? = some p) : b.ρ[l]? = some p := by
  obtain ⟨t, h1⟩ := x.pre
  rw [h1, List.getElem?_append_left (List.getElem?_eq_some_iff.mp h).1]
  exact h
mutual
inductive Rep (K : PySem.W.Frag) (vw : Vw) : V → D → Prop
  | non : Rep K vw .non .non
  | bl (b : Bool) : Rep K vw (.bl b) (.bl b)
  | int (i : Int) : Rep K vw (.int i) (.int i)
  | str (s : List Nat) : Rep K vw (.str (toS s)) (.str s)
  | tup {a : Addr} {xs : List V} {ds : List D} : SqT K vw.F a xs → Reps K vw xs ds → Rep K vw (.ref a) (.tup ds)
  | lst {a : Addr} {xs : List V} {ds : List D} : vw.F a = some (.lst xs) → Reps K vw xs ds → Rep K vw (.ref a) (.lst ds)
  | scr {a : Addr} {xs : List V} {ds : List D} : SqL K vw.F a xs → Reps K vw xs ds → Rep K vw (.ref a) (.scr ds)
  | dct {a : Addr} {kvs : List (Key × V)} {vs : List D} : vw.F a = some (.dK kvs) → Reps K vw (kvs.map (·.2)) vs → Rep K vw (.ref a) (.dct (kvs.map fun p => keyD p.1) vs)
  | ref {a : Addr} {l : Nat} : vw.ρ[l]? = some a → Rep K vw (.ref a) (.ref l)
inductive Reps (K : PySem.W.Frag) (vw : Vw) : List V → List D → Prop
  | nil : Reps K vw [] []
  | cons {v : V} {vs : List V} {d : D} {ds : List D} : Rep K vw v d → Reps K vw vs ds → Reps K vw (v :: vs) (d :: ds)
end
section
variable {K : PySem.W.Frag} {vw vw' : Vw}
mutual
theorem Rep.mono (le : vw.Le vw') : ∀ {v : V} {d : D}, Rep K vw v d → Rep K vw' v d
  | _, _, .non => .non
  | _, _, .bl b => .bl b
  | _, _, .int i => .int i
  | _, _, .str s => .str s
  | _, _, .tup h r => .tup (le.ex.sqT h) (Reps.mono le r)
  | _, _, .lst h r => .lst (le.ex _ _ h) (Reps.mono le r)
  | _, _, .scr h r => .scr (le.ex.sqL h) (Reps.mono le r)
  | _, _, .dct h r => .dct (le.ex _ _ h) (Reps.mono le r)
  | _, _, .ref h => .ref (le.at h)
theorem Reps.mono (le : vw.Le vw') : ∀ {v : List V} {d : List D}, Reps K vw v d → Reps K vw' v d
  | _, _, .nil => .nil
  | _, _, .cons h r => .cons (Rep.mono le h) (Reps.mono le r)
end
theorem Reps.length : ∀ {v : List V} {d : List D}, Reps K vw v d → v.length = d.length
  | _, _, .nil => rfl
  | _, _, .cons _ r => by simp [Reps.length r]
theorem Reps.append : ∀ {v v2 : List V} {d d2 : List D}, Reps K vw v d → Reps K vw v2 d2 → Reps K vw (v ++ v2) (d ++ d2)
  | _, _, _, _, .nil, s => s
  | _, _, _, _, .cons h r, s => .cons h (Reps.append r s)
theorem Reps.at : ∀ {vs : List V} {ds : List D} {i : Nat} {d : D}, Reps K vw vs ds → ds[i]? = some d → ∃ v, vs[i]? = some v ∧ Rep K vw v d
  | _, _, _, _, .nil, e => by simp at e
  | _, _, 0, _, .cons h _, e => by simp at e; subst e; exact ⟨_, rfl, h⟩
  | _, _, i + 1, d, .cons _ r, e => by
    obtain ⟨v, a, b⟩ := Reps.at (i := i) (d := d) r (by simpa using e)
    exact ⟨v, by simpa using a, b⟩
theorem Reps.atV : ∀ {vs : List V} {ds : List D} {i : Nat} {v : V}, Reps K vw vs ds → vs[i]? = some v → ∃ d, ds[i]? = some d ∧ Rep K vw v d
  | _, _, _, _, .nil, e => by simp at e
  | _, _, 0, _, .cons h _, e => by simp at e; subst e; exact ⟨_, rfl, h⟩
  | _, _, i + 1, d, .cons _ r, e => by
    obtain ⟨v, a, b⟩ := Reps.atV (i := i) (v := d) r (by simpa using e)
    exact ⟨v, by simpa using a, b⟩
theorem Reps.set : ∀ {vs : List V} {ds : List D} {i : Nat} {v : V} {d : D}, Reps K vw vs ds → Rep K vw v d → Reps K vw (vs.set i v) (ds.set i d)
  | _, _, _, _, _, .nil, _ => .nil
  | _, _, 0, _, _, .cons _ r, h => .cons h r
  | _, _, i + 1, _, _, .cons a r, h => .cons a (Reps.set r h)
theorem Reps.take : ∀ {vs : List V} {ds : List D} (n : Nat), Reps K vw vs ds → Reps K vw (vs.take n) (ds.take n)
  | _, _, 0, _ => .nil
  | _, _, _ + 1, .nil => .nil
  | _, _, n + 1, .cons h r => .cons h (Reps.take n r)
theorem Reps.drop : ∀ {vs : List V} {ds : List D} (n : Nat), Reps K vw vs ds → Reps K vw (vs.drop n) (ds.drop n)
  | _, _, 0, r => r
  | _, _, _ + 1, .nil => .nil
  | _, _, n + 1, .cons _ r => Reps.drop n r
end
/-- an object and the cell's content -/
def ObR (K : PySem.W.Frag) (nm : Nm) (vw : Vw) (H : Hp) (a : Addr) : Ob → Prop
  | .lst xs => ∃ vs, H a = some (.lst vs) ∧ Reps K vw vs xs
  | .dct ks vs => ∃ kvs, H a = some (.dK kvs) ∧ ks = kvs.map (fun p => keyD p.1) ∧ Reps K vw (kvs.map (·.2)) vs
  | .ins c fs => ∃ dx gs, H a = some (.ins (nm.ca c) dx gs) ∧ gs.map (·.1) = fs.map (fun p => nm.fn p.1) ∧ Reps K vw (gs.map (·.2)) (fs.map (·.2))
theorem ObR.mono {K : PySem.W.Frag} {nm : Nm} {vw vw' : Vw} {H H' : Hp} {a : Addr} (le : vw.Le vw') (e : H' a = H a) : ∀ {o : Ob}, ObR K nm vw H a o → ObR K nm vw' H' a o
  | .lst xs, ⟨vs, h, r⟩ => ⟨vs, e.trans h, r.mono le⟩
  | .dct ks vs, ⟨kvs, h, q, r⟩ => ⟨kvs, e.trans h, q, r.mono le⟩
  | .ins c fs, ⟨dx, gs, h, q, r⟩ => ⟨dx, gs, e.trans h, q, r.mono le⟩
theorem ObR.there {K : PySem.W.Frag} {nm : Nm} {vw : Vw} {H : Hp} {a : Addr} : ∀ {o : Ob}, ObR K nm vw H a o → ∃ u, H a = some u ∧ Mut (some u)
  | .lst xs, ⟨vs, h, r⟩ => ⟨_, h, trivial⟩
  | .dct ks vs, ⟨kvs, h, q, r⟩ => ⟨_, h, trivial⟩
  | .ins c fs, ⟨dx, gs, h, q, r⟩ => ⟨_, h, trivial⟩
/-- the abstract heap holds the small heap -/
structure SR (K : PySem.W.Frag) (nm : Nm) (vw : Vw) (H : Hp) (h : Hh) : Prop where
  ex : Ex vw.F H
  len : vw.ρ.length = h.length
  nd : vw.ρ.Nodup
  nf : ∀ a ∈ vw.ρ, vw.F a = none
  ob : ∀ (l : Nat) (o : Ob) (a : Addr), h[l]? = some o → vw.ρ[l]? = some a → ObR K nm vw H a o
section
variable {K : PySem.W.Frag} {nm : Nm} {vw vw' : Vw} {H H' : Hp} {h : Hh}
theorem SR.cell (s : SR K nm vw H h) {l : Nat} {o : Ob} (e : h[l]? = some o) : ∃ a, vw.ρ[l]? = some a ∧ ObR K nm vw H a o := by
  have hl := (List.getElem?_eq_some_iff.mp e).1
  have : l < vw.ρ.length := by rw [s.len]; exact hl
  exact ⟨vw.ρ[l], by simp [this], s.ob l o _ e (by simp [this])⟩
theorem SR.cellAt (s : SR K nm vw H h) {l : Nat} {a : Addr} (e : vw.ρ[l]? = some a) : ∃ o, h[l]? = some o ∧ ObR K nm vw H a o := by
  have hl := (List.getElem?_eq_some_iff.mp e).1
  have : l < h.length := by rw [← s.len]; exact hl
  exact ⟨h[l], by simp [this], s.ob l _ _ (by simp [this]) e⟩
theorem SR.notin (s : SR K nm vw H h) {p : Addr} (hp : H p = none) : p ∉ vw.ρ := fun hm => by
  obtain ⟨l, hl, e⟩ := List.mem_iff_getElem.mp hm
  obtain ⟨o, _, r⟩ := s.cellAt (l := l) (a := p) (by simp [hl, e])
  obtain ⟨u, hu, _⟩ := r.there
  rw [hp] at hu; cases hu
/-- a new thing that stands for ever -/
def Vw.newF (vw : Vw) (p : Addr) (o : HO) : Vw := ⟨vw.ρ, upd vw.F p o⟩
def Vw.newM (vw : Vw) (p : Addr) : Vw := ⟨vw.ρ ++ [p], vw.F⟩
theorem SR.leF (s : SR K nm vw H h) {p : Addr} (o : HO) (hp : H p = none) : vw.Le (vw.newF p o) := ⟨⟨[], by simp [Vw.newF]⟩, fun a u e => by
  show upd vw.F p o a = some u
  rw [upd_ne (ne_of_none e (s.ex.none hp))]; exact e⟩
theorem Vw.leM (vw : Vw) (p : Addr) : vw.Le (vw.newM p) := ⟨⟨[p], rfl⟩, Ex.rfl⟩
theorem SR.newF (s : SR K nm vw H h) {p : Addr} {o : HO} (hp : H p = none) : SR K nm (vw.newF p o) (upd H p o) h := by
  refine ⟨fun a u e => ?_, s.len, s.nd, fun a ha => ?_, fun l ob a e e2 => ?_⟩
  · have e : upd vw.F p o a = some u := e
    by_cases ha : a = p
    · subst ha; rw [upd_same] at e ⊢; exact e
    · rw [upd_ne ha] at e ⊢; exact s.ex _ _ e
  · show upd vw.F p o a = none
    have : a ≠ p := fun q => s.notin hp (q ▸ ha)
    rw [upd_ne this]; exact s.nf a ha
  · have ha : a ≠ p := fun q => s.notin hp (q ▸ List.mem_of_getElem? e2)
    exact (s.ob l ob a e e2).mono (s.leF o hp) (upd_ne ha)
theorem SR.newM (s : SR K nm vw H h) {p : Addr} {o : HO} {ob : Ob} (hp : H p = none) (new : ObR K nm (vw.newM p) (upd H p o) p ob) : SR K nm (vw.newM p) (upd H p o) (h ++ [ob]) := by
  have np := s.notin hp
  refine ⟨fun a u e => ?_, by simp [Vw.newM, s.len], ?_, fun a ha => ?_, fun l q a e e2 => ?_⟩
  · have e : vw.F a = some u := e
    rw [upd_ne (ne_of_none e (s.ex.none hp))]; exact s.ex _ _ e
  · show (vw.ρ ++ [p]).Nodup
    rw [List.nodup_append]
    refine ⟨s.nd, by simp, fun a ha b hb => ?_⟩
    have : b = p := by simpa using hb
    subst this
    exact fun q => np (q ▸ ha)
  · have ha : a ∈ vw.ρ ++ [p] := ha
    show vw.F a = none
    rcases List.mem_append.mp ha with q | q
    · exact s.nf a q
    · have : a = p := by simpa using q
      subst this
      exact s.ex.none hp
  · have e2 : (vw.ρ ++ [p])[l]? = some a := e2
    by_cases hl : l < h.length
    · rw [List.getElem?_append_left hl] at e
      rw [List.getElem?_append_left (by rw [s.len]; exact hl)] at e2
      have ha : a ≠ p := fun q => np (q ▸ List.mem_of_getElem? e2)
      exact (s.ob l q a e e2).mono (vw.leM p) (upd_ne ha)
    · have : l = h.length := by
        have := (List.getElem?_eq_some_iff.mp e).1
        simp at this; omega
      subst this
      rw [← s.len] at e2
      simp at e e2
      subst e e2
      exact new
/-- a cell is written -/
theorem SR.write (s : SR K nm vw H h) {l : Nat} {a : Addr} {o : HO} {ob : Ob} (hl : vw.ρ[l]? = some a) (new : ObR K nm vw (upd H a o) a ob) : SR K nm vw (upd H a o) (h.set l ob) := by
  refine ⟨fun b u e => ?_, by simp [s.len], s.nd, s.nf, fun j q b e e2 => ?_⟩
  · have nf := s.nf a (List.mem_of_getElem? hl)
    have : b ≠ a := fun z => by subst z; rw [nf] at e; cases e
    rw [upd_ne this]; exact s.ex _ _ e
  · by_cases hj : l = j
    · subst hj
      rw [hl] at e2; cases e2
      have hlt : l < h.length := by rw [← s.len]; exact (List.getElem?_eq_some_iff.mp hl).1
      rw [List.getElem?_set_self hlt] at e
      cases e
      exact new
    · rw [List.getElem?_set_ne hj] at e
      have : b ≠ a := fun z => by
        subst z
        have h1 := (List.getElem?_eq_some_iff.mp hl)
        have h2 := (List.getElem?_eq_some_iff.mp e2)
        obtain ⟨i1, q1⟩ := h1
        obtain ⟨i2, q2⟩ := h2
        exact hj ((List.getElem_inj s.nd).mp (q1.trans q2.symm))
      exact (s.ob j q b e e2).mono Vw.Le.rfl (upd_ne this)
end
/-- what one piece of code does to the view and the heap: all that is tracked and no cell stays; what is new was free -/
structure Stp (vw : Vw) (H : Hp) (vw' : Vw) (H' : Hp) : Prop where
  le : vw.Le vw'
  keep : ∀ a o, H a = some o → a ∉ vw.ρ → H' a = some o
  newF : ∀ a o, vw'.F a = some o → vw.F a = some o ∨ a ∈ vw.ρ ∨ H a = none
  newR : ∀ a, a ∈ vw'.ρ → a ∈ vw.ρ ∨ H a = none
theorem Stp.rfl {vw : Vw} {H : Hp} : Stp vw H vw H := ⟨Vw.Le.rfl, fun _ _ h _ => h, fun _ _ h => .inl h, fun _ h => .inl h⟩
theorem Stp.free {vw vw' : Vw} {H H' : Hp} (s : Stp vw H vw' H') {a : Addr} (h : H' a = none) : a ∈ vw.ρ ∨ H a = none := by
  cases q : H a with
  | none => exact .inr (by first | rfl | exact q)
  | some o =>
    by_cases ha : a ∈ vw.ρ
    · exact .inl ha
    · rw [s.keep a o q ha] at h; cases h
theorem Stp.trans {vw vw1 vw2 : Vw} {H H1 H2 : Hp} (s : Stp vw H vw1 H1) (t : Stp vw1 H1 vw2 H2) : Stp vw H vw2 H2 := by
  refine ⟨s.le.trans t.le, fun a o h ha => ?_, fun a o h => ?_, fun a h => ?_⟩
  · refine t.keep a o (s.keep a o h ha) fun hb => ?_
    rcases s.newR a hb with q | q
    · exact ha q
    · rw [q] at h; cases h
  · rcases t.newF a o h with q | q | q
    · exact s.newF a o q
    · exact .inr (s.newR a q)
    · exact .inr (s.free q)
  · rcases t.newR a h with q | q
    · exact s.newR a q
    · exact s.free q
section
variable {K : PySem.W.Frag} {nm : Nm} {vw vw' : Vw} {H H' : Hp} {h : Hh}
theorem SR.stF (s : SR K nm vw H h) {p : Addr} (o : HO) (hp : H p = none) : Stp vw H (vw.newF p o) (upd H p o) := by
  refine ⟨s.leF o hp, fun a u e _ => by rw [upd_ne (ne_of_none e hp)]; exact e, fun a u e => ?_, fun a ha => .inl ha⟩
  by_cases q : a = p
  · subst q; exact .inr (.inr hp)
  · have e : upd vw.F p o a = some u := e
    rw [upd_ne q] at e
    exact .inl e
theorem SR.stM (s : SR K nm vw H h) {p : Addr} (o : HO) (hp : H p = none) : Stp vw H (vw.newM p) (upd H p o) := by
  refine ⟨vw.leM p, fun a u e _ => by rw [upd_ne (ne_of_none e hp)]; exact e, fun a u e => .inl e, fun a ha => ?_⟩
  have ha : a ∈ vw.ρ ++ [p] := ha
  rcases List.mem_append.mp ha with q | q
  · exact .inl q
  · have : a = p := by simpa using q
    subst this
    exact .inr hp
theorem SR.stW (s : SR K nm vw H h) {a : Addr} {l : Nat} (o : HO) (hl : vw.ρ[l]? = some a) : Stp vw H vw (upd H a o) := by
  refine ⟨Vw.Le.rfl, fun b u e hb => ?_, fun _ _ e => .inl e, fun _ e => .inl e⟩
  have : b ≠ a := fun q => hb (q ▸ List.mem_of_getElem? hl)
  rw [upd_ne this]; exact e
/-- a thing that is no cell and does not stand for ever may change -/
theorem SR.other (s : SR K nm vw H h) {p : Addr} (o : HO) (h1 : p ∉ vw.ρ) (h2 : vw.F p = none) : SR K nm vw (upd H p o) h := by
  refine ⟨fun a u e => ?_, s.len, s.nd, s.nf, fun l q a e e2 => ?_⟩
  · rw [upd_ne (ne_of_none e h2)]; exact s.ex _ _ e
  · have : a ≠ p := fun z => h1 (z ▸ List.mem_of_getElem? e2)
    exact (s.ob l q a e e2).mono Vw.Le.rfl (upd_ne this)
end
/-! ### slots -/
structure EnvR (K : PySem.W.Frag) (vw : Vw) (σ : L2.St) (δ : Ev) : Prop where
  len : σ.length = δ.length
  at_ : ∀ (i : Nat) (d : D), δ[i]? = some (some d) → ∃ v, σ[i]? = some (some v) ∧ Rep K vw v d
section
variable {K : PySem.W.Frag} {vw vw' : Vw} {σ : L2.St} {δ : Ev}
theorem EnvR.mono (le : vw.Le vw') (e : EnvR K vw σ δ) : EnvR K vw' σ δ := ⟨e.len, fun i d q => by
  obtain ⟨v, a, b⟩ := e.at_ i d q
  exact ⟨v, a, b.mono le⟩⟩
theorem EnvR.set (e : EnvR K vw σ δ) {i : Nat} {v : V} {d : D} (r : Rep K vw v d) : EnvR K vw (σ.set i (some v)) (δ.set i (some d)) := ⟨by simp [e.len], fun j u q => by
  by_cases hj : i = j
  · subst hj
    by_cases hi : i < δ.length
    · rw [List.getElem?_set_self hi] at q
      cases q
      exact ⟨v, List.getElem?_set_self (by rw [e.len]; exact hi), r⟩
    · rw [List.getElem?_eq_none (by simpa using hi)] at q; cases q
  · rw [List.getElem?_set_ne hj] at q
    obtain ⟨w, a, b⟩ := e.at_ j u q
    exact ⟨w, by rw [List.getElem?_set_ne hj]; exact a, b⟩⟩
theorem EnvR.look (e : EnvR K vw σ δ) {i : Nat} {d : D} (h : VI.look δ i = some d) : ∃ v, σ[i]? = some (some v) ∧ Rep K vw v d := by
  unfold VI.look at h
  cases q : δ[i]? with
  | none => rw [q] at h; cases h
  | some o => rw [q] at h; exact e.at_ i d (by rw [q]; exact congrArg some h)
theorem EnvR.none (e : EnvR K vw σ δ) (i : Nat) : EnvR K vw (σ.set i none) (δ.set i none) := ⟨by simp [e.len], fun j u q => by
  by_cases hj : i = j
  · subst hj
    by_cases hi : i < δ.length
    · rw [List.getElem?_set_self hi] at q; cases q
    · rw [List.getElem?_eq_none (by simpa using hi)] at q; cases q
  · rw [List.getElem?_set_ne hj] at q
    obtain ⟨w, a, b⟩ := e.at_ j u q
    exact ⟨w, by rw [List.getElem?_set_ne hj]; exact a, b⟩⟩
theorem EnvR.wipe (e : EnvR K vw σ δ) : ∀ is : List Nat, EnvR K vw (L2.wipe σ is) (wipeE δ is)
  | [] => e
  | i :: is => (e.wipe is).none i
end
/-! ### readings by the interpreter -/
def RdE (K : PySem.W.Frag) (nm : Nm) (g : Ev → Hh → Option (D × Hh)) : TE := fun σ H Q => ∃ vw h δ d h', SR K nm vw H h ∧ EnvR K vw σ δ ∧ g δ h = some (d, h') ∧
  ∀ vw' H' v, Stp vw H vw' H' → SR K nm vw' H' h' → Rep K vw' v d → Q v H'
def RdA (K : PySem.W.Frag) (nm : Nm) (g : Ev → Hh → Option (List D × Hh)) : TA := fun σ H Q => ∃ vw h δ d h', SR K nm vw H h ∧ EnvR K vw σ δ ∧ g δ h = some (d, h') ∧
  ∀ vw' H' v, Stp vw H vw' H' → SR K nm vw' H' h' → Reps K vw' v d → Q v H'
def RdT (K : PySem.W.Frag) (nm : Nm) (g : Ev → Hh → Option (D × Hh)) : TT := fun σ H Q => ∃ vw h δ b h', SR K nm vw H h ∧ EnvR K vw σ δ ∧ g δ h = some (.bl b, h') ∧
  ∀ vw' H', Stp vw H vw' H' → SR K nm vw' H' h' → Q b H'
/-- an operation on two values -/
def RdO (K : PySem.W.Frag) (nm : Nm) (g : Hh → D → D → Option D) : R2 := fun x y H Q => ∃ vw h d e r, SR K nm vw H h ∧ Rep K vw x d ∧ Rep K vw y e ∧ g h d e = some r ∧
  ∀ vw' H' v, Stp vw H vw' H' → SR K nm vw' H' h → Rep K vw' v r → Q v H'
def RdB (K : PySem.W.Frag) (nm : Nm) (g : Hh → List D → Option D) : List V → Hp → VK → Prop := fun xs H Q => ∃ vw h ds r, SR K nm vw H h ∧ Reps K vw xs ds ∧ g h ds = some r ∧
  ∀ vw' H' v, Stp vw H vw' H' → SR K nm vw' H' h → Rep K vw' v r → Q v H'
/-- a statement -/
def RdS (K : PySem.W.Frag) (nm : Nm) (g : Ev → Hh → Option Out) : TS := fun E σ H => ∃ vw h δ o, SR K nm vw H h ∧ EnvR K vw σ δ ∧ g δ h = some o ∧
  ∀ vw' H', Stp vw H vw' H' → match o with
    | .nx δ' h' => ∀ σ', SR K nm vw' H' h' → EnvR K vw' σ' δ' → E.nx σ' H'
    | .bk δ' h' => ∀ σ', SR K nm vw' H' h' → EnvR K vw' σ' δ' → E.bk σ' H'
    | .ct δ' h' => ∀ σ', SR K nm vw' H' h' → EnvR K vw' σ' δ' → E.ct σ' H'
    | .rt d h' => ∀ v, SR K nm vw' H' h' → Rep K vw' v d → E.rt v H'
theorem _root_.L2.PE.imp {X : Cx} {e : Expr} {t t' : TE} (h : PE X e t) (i : ∀ σ H Q, t' σ H Q → t σ H Q) : PE X e t' := ⟨fun pins s σ H Q I q => h.run pins s σ H Q I (i σ H Q q)⟩
theorem _root_.L2.PT.imp {X : Cx} {e : Expr} {t t' : TT} (h : PT X e t) (i : ∀ σ H Q, t' σ H Q → t σ H Q) : PT X e t' := ⟨fun pins s σ H Q I q => h.run pins s σ H Q I (i σ H Q q)⟩
theorem _root_.L2.PW.imp {X : Cx} {e : Expr} {t t' : TT} (h : PW X e t) (i : ∀ σ H Q, t' σ H Q → t σ H Q) : PW X e t' := ⟨fun w pins s σ H Q I q => h.run w pins s σ H Q I (i σ H Q q)⟩
theorem _root_.L2.PA.imp {X : Cx} {e : List Expr} {t t' : TA} (h : PA X e t) (i : ∀ σ H Q, t' σ H Q → t σ H Q) : PA X e t' := ⟨fun pos pins s σ H Q I q => h.run pos pins s σ H Q I (i σ H Q q)⟩
theorem _root_.L2.PS.imp {X : Cx} {e : Stmt} {t t' : TS} (h : PS X e t) (i : ∀ D σ H, t' D σ H → t D σ H) : PS X e t' := ⟨fun pins s σ H D I q => h.run pins s σ H D I (i D σ H q)⟩
theorem _root_.L2.PSs.imp {X : Cx} {e : List Stmt} {t t' : TS} (h : PSs X e t) (i : ∀ D σ H, t' D σ H → t D σ H) : PSs X e t' := ⟨fun pins s σ H D I q => h.run pins s σ H D I (i D σ H q)⟩
theorem OpR.by {X : Cx} {f : Value → Value → Sem Value} {t : R2} (h : ∀ x y H Q, t x y H Q → ∃ r, OpR X f r ∧ r x y H Q) : OpR X f t := by
  intro pins s σ H x y v u Q I rx ry q
  obtain ⟨r, hr, q⟩ := h x y H Q q
  exact hr pins s σ H x y v u Q I rx ry q
theorem CallR.by {X : Cx} {f : Value} {t : List V → Hp → VK → Prop} (h : ∀ xs H Q, t xs H Q → ∃ r, CallR X f r ∧ r xs H Q) : CallR X f t := by
  intro pins s σ H xs us Q I rx q
  obtain ⟨r, hr, q⟩ := h xs H Q q
  exact hr pins s σ H xs us Q I rx q
end VI

/-! VI, part C0: text * n, x in (..) of data, None in range(..), a < b <= c < d. -/
namespace VI
open PySem L2 PyProof.Rows
section
variable {X : Cx}
theorem foldl_cat (z : List Nat) : ∀ (m : Nat) (acc : List Nat), (List.replicate m z.toArray).foldl (fun x1 x2 => x1 ++ x2) acc.toArray = (acc ++ (List.replicate m z).flatten).toArray
  | 0, acc => by simp
  | m + 1, acc => by
    rw [List.replicate_succ, List.foldl_cons, List.replicate_succ, List.flatten_cons, ← List.append_assoc, ← foldl_cat z m (acc ++ z)]
    simp
theorem rep_one (z : List Nat) : (List.replicate 1 z).flatten = z := by simp
theorem rep_nil : ∀ m : Nat, (List.replicate m ([] : List Nat)).flatten = []
  | 0 => rfl
  | m + 1 => by rw [List.replicate_succ, List.flatten_cons, rep_nil m]; rfl
theorem rep_len {α : Type} (z : List α) : ∀ m : Nat, (List.replicate m z).flatten.length = m * z.length
  | 0 => by simp
  | m + 1 => by rw [List.replicate_succ, List.flatten_cons, List.length_append, rep_len z m, Nat.add_mul, Nat.one_mul, Nat.add_comm]
theorem op_mulS : OpR X (binaryOp .Mult) (fun x y H Q => ∃ (z : List Nat) (k : Int), x = .str (toS z) ∧ y = .int k ∧ 0 ≤ k ∧ k ≤ 200 ∧ z.length ≤ 200 ∧ Q (.str (toS (List.replicate k.toNat z).flatten)) H) := by
  intro pins s σ H x y v u Q I rx ry h
  obtain ⟨z, k, rfl, rfl, h0, h1, h2, q⟩ := h
  obtain ⟨t, rfl⟩ := rx
  obtain ⟨t', rfl⟩ := ry
  have hl : (toS z).length = z.length := toS_len z
  have hmul : z.length * k.toNat ≤ 200 * 200 := Nat.mul_le_mul h2 (by omega)
  refine P.mul_str ?_ ?_ ?_ ?_
  · rw [decide_eq_false (by omega), decide_eq_false (by omega)]; rfl
  · intro hk _ hgt
    rw [hl] at hgt
    have : (2 ^ 63 - 1 : Int) / 200 ≤ (2 ^ 63 - 1) / k := by
      refine Int.le_ediv_of_mul_le (by omega) ?_
      calc (2 ^ 63 - 1 : Int) / 200 * k ≤ (2 ^ 63 - 1 : Int) / 200 * 200 := Int.mul_le_mul_of_nonneg_left h1 (by decide)
        _ ≤ 2 ^ 63 - 1 := by decide
    have h3 : ((2 : Int) ^ 63 - 1) / 200 = 46116860184273879 := by decide
    omega
  · intro _ _
    rw [hl]
    unfold Builtin.Str.tooLong
    simp only [decide_eq_false_iff_not, sizeLine_eq]
    omega
  · by_cases hk : k < 1
    · have hk0 : k = 0 := by omega
      subst hk0
      rw [if_pos hk]
      refine ⟨by decide, .str _, H, I.tok _, ⟨_, rfl⟩, ?_⟩
      exact q
    · rw [if_neg hk]
      by_cases h3 : (k == 1 || (toS z).length == 0) = true
      · rw [if_pos h3]
        refine ⟨.str (toS z), H, I, ⟨_, rfl⟩, ?_⟩
        have e : (List.replicate k.toNat z).flatten = z := by
          rcases Bool.or_eq_true_iff.mp h3 with w | w
          · have : k = 1 := by simpa using w
            subst this
            exact rep_one z
          · have : z = [] := by rw [hl] at w; exact List.eq_nil_of_length_eq_zero (by simpa using w)
            subst this
            exact rep_nil _
        rw [e] at q
        exact q
      · rw [if_neg h3]
        have e : (⟨(List.replicate k.toNat (toS z).cps).foldl (· ++ ·) #[]⟩ : Str) = toS (List.replicate k.toNat z).flatten := by
          have := foldl_cat z k.toNat []
          rw [List.nil_append] at this
          show (⟨(List.replicate k.toNat z.toArray).foldl (fun x1 x2 => x1 ++ x2) #[]⟩ : Str) = _
          rw [this]
          rfl
        rw [e]
        refine ⟨?_, .str _, H, I.tok _, ⟨_, rfl⟩, q⟩
        rw [toS_len, rep_len, sizeLine_eq]
        have : k.toNat * z.length = z.length * k.toNat := Nat.mul_comm _ _
        omega
def rInT (K : PySem.W.Frag) (neg : Bool) : R2 := fun x y H Q => ∃ d ds, Dp K H x d ∧ Dp K H y (.tuple ds) ∧ SeqAt.shaped d = true ∧ SeqAt.shaped (.tuple ds) = true ∧ Q (.bl (if neg then !ds.any fun z => PyData.eqv z d else ds.any fun z => PyData.eqv z d)) H
theorem op_inT (hu : X.A.units + 65 < cLine) : OpR X (compareOp .In) (rInT X.K false) := by
  intro pins s σ H x y v u Q I rx ry h
  obtain ⟨d, ds, hd, he, sd, se, q⟩ := h
  obtain ⟨as, r1⟩ := Dp.reads I d x v hd rx
  obtain ⟨bs, r2⟩ := Dp.reads I (.tuple ds) y u he ry
  exact SeqAt.in_tuple_reads r2 r1 (SeqAt.canLay_of_shaped se) (SeqAt.canLay_of_shaped sd) (room_in_shaped sd hu) ⟨.bl _, H, I, rfl, q⟩
theorem op_ninT (hu : X.A.units + 65 < cLine) : OpR X (compareOp .NotIn) (rInT X.K true) := by
  intro pins s σ H x y v u Q I rx ry h
  obtain ⟨d, ds, hd, he, sd, se, q⟩ := h
  obtain ⟨as, r1⟩ := Dp.reads I d x v hd rx
  obtain ⟨bs, r2⟩ := Dp.reads I (.tuple ds) y u he ry
  exact SeqAt.notIn_tuple_reads r2 r1 (SeqAt.canLay_of_shaped se) (SeqAt.canLay_of_shaped sd) (room_in_shaped sd hu) ⟨.bl _, H, I, rfl, q⟩
/-! ### None in range(a, b) -/
theorem plain_rloop : plainId "range.__contains__.loop" = true := by decide +kernel
theorem entry_rloop : entryFor table "range.__contains__.loop" = some Builtin.«range.__contains__.loop» := entryFor_of_fast (by kernel_rfl)
theorem eqAt_intN {A : Around} {s : Shared} (i : Int) (t : Tok) : SeqAt.EqAt A s (.int i t) .none false := eqAt_V (x := .non) (y := .int i) ⟨t, rfl⟩ rfl rfl rfl
theorem rsize (a b : Int) : Builtin.Range.rangeSize a b 1 = ((b - a).toNat : Int) := by
  unfold Builtin.Range.rangeSize
  rw [if_pos (by decide)]
  by_cases h : a < b
  · rw [if_pos h, Int.ediv_one]; omega
  · rw [if_neg h]; omega
theorem rng_loopN (r : Addr) (a b : Int) (t u v : Tok) : ∀ (k i : Nat), (b - a).toNat - i = k → Meets (Builtin.«range.__contains__.loop» ⟨[.ref r, .none, rawInt i], []⟩)
    (fun _ R s => s.heap.get? r = some { cls := .type "range", dict := none, data := .fields #[.int a t, .int b u, .int 1 v], slots := #[] } ∧ ∀ tk, s.toks ≤ tk → R (.ok (.ret (.bool false))) { s with toks := tk }) := by
  intro k
  induction k with
  | zero =>
    intro i hk prog w A R s h
    obtain ⟨hp, g, d, tk, os⟩ := s; obtain ⟨hl, h⟩ := h
    wp_walk
    refine wpAny_ite_true (decide_eq_true (by rw [rsize]; omega)) ?_
    wp_walk
    exact h tk (Nat.le_refl _)
  | succ k ih =>
    intro i hk prog w A R s h
    obtain ⟨hp, g, d, tk, os⟩ := s; obtain ⟨hl, h⟩ := h
    wp_walk
    refine wpAny_ite_false (decide_eq_false (by rw [rsize]; omega)) ?_
    · refine wpAny_bind (wpAny_mkInt ?_)
      refine wpAny_bind (eqAt_intN _ _ prog w _ _ ?_)
      have hc : ((i : Int) + 1) = ((i + 1 : Nat) : Int) := by push_cast; rfl
      wp_walk
      rw [hc]
      exact ⟨plainId_quiet plain_rloop _, codeAny_builtin entry_rloop (by
        rw [Around.under_plainId plain_rloop _]
        exact ih (i + 1) (by omega) prog w A R _ ⟨hl, fun tk' ht => h tk' (by have : tk + 1 ≤ tk' := ht; show tk ≤ tk'; omega)⟩)⟩
theorem q_containsN (r : Addr) (a b : Int) (t u v : Tok) :
    Meets (Builtin.«range.__contains__» ⟨[.ref r, .none], []⟩) (fun _ R s => s.heap.get? r = some { cls := .type "range", dict := none, data := .fields #[.int a t, .int b u, .int 1 v], slots := #[] } ∧ ∀ tk, s.toks ≤ tk → R (.ok (.ret (.bool false))) { s with toks := tk }) := by
  intro prog w A R s h
  obtain ⟨hp, g, d, tk, os⟩ := s; obtain ⟨hl, h⟩ := h
  wp_walk
  exact ⟨plainId_quiet plain_rloop _, codeAny_builtin entry_rloop (by
    rw [Around.under_plainId plain_rloop _]
    exact rng_loopN r a b t u v _ 0 rfl prog w A R _ ⟨hl, h⟩)⟩
/-- x in r, x an int or None -/
def rInR (neg : Bool) : R2 := fun x y H Q => ∃ a lo hi b, y = V.ref a ∧ H a = some (.rng lo hi) ∧ ((∃ i, x = V.int i ∧ b = decide (lo ≤ i ∧ i < hi)) ∨ (x = .non ∧ b = false)) ∧ Q (.bl (if neg then !b else b)) H
theorem op_inR (neg : Bool) : OpR X (compareOp (if neg then .NotIn else .In)) (rInR neg) := by
  intro pins s σ H x y v u Q I rx ry h
  obtain ⟨a, lo, hi, b, rfl, ha, hx, q⟩ := h
  obtain rfl : u = Value.ref a := ry
  obtain ⟨t1, t2, t3, ho⟩ := I.hok a _ ha
  have key : ∀ {f : Bool → Bool}, Q (.bl (f b)) H → wpAny (model X.prog X.w) X.A (do return Value.bool (f (← contains (Value.ref a) v))) (fun d s' => ∃ x' H', Inv X pins σ H' s' ∧ RelV x' d ∧ Q x' H') X.xe s := fun {f} q => by
    rcases hx with ⟨i, rfl, rfl⟩ | ⟨rfl, rfl⟩
    · obtain ⟨k, rfl⟩ := rx
      refine wpAny_bind (wpAny_contains_slot (T := "range") ⟨_, ho, rfl⟩ F.slot_range_contains (call_meets F.slot_range_contains ⟨_, ho, rfl⟩ F.entry_range_contains (F.args_range_contains_2 _ _) (q_contains a lo hi i t1 t2 t3 k)
        ⟨ho, wpAny_truthy_bool (wpAny_pure ⟨.bl _, H, I, rfl, ?_⟩)⟩))
      rw [place1]
      exact q
    · obtain rfl : v = Value.none := rx
      exact wpAny_bind (wpAny_contains_slot (T := "range") ⟨_, ho, rfl⟩ F.slot_range_contains (call_meets F.slot_range_contains ⟨_, ho, rfl⟩ F.entry_range_contains (F.args_range_contains_2 _ _) (q_containsN a lo hi t1 t2 t3)
        ⟨ho, fun tk ht => wpAny_truthy_bool (wpAny_pure ⟨.bl _, H, I.tok _, rfl, q⟩)⟩))
  cases neg with
  | false => exact key (f := fun b => b) q
  | true => exact key (f := fun b => !b) q
/-! ### a < b < c < d -/
def tChain3 (r r' r3 : R2) (ta tb tc td : TE) : TE := fun σ H Q => ta σ H fun x H1 => tb σ H1 fun y H2 => r x y H2 fun z H3 => ∃ k, z = .bl k ∧
  (if k = true then tc σ H3 fun w' H4 => r' y w' H4 fun z2 H5 => ∃ k2, z2 = .bl k2 ∧ (if k2 = true then td σ H5 fun w2 H6 => r3 w' w2 H6 Q else Q (.bl false) H5) else Q (.bl false) H3)
theorem pe_chain3 {op op' op3 : CmpOp} {r r' r3 : R2} {a b c d : Expr} {ta tb tc td : TE} {pos : Pos} (ho : OpR X (compareOp op) r) (ho' : OpR X (compareOp op') r') (ho3 : OpR X (compareOp op3) r3) (ha : PE X a ta) (hb : PE X b tb) (hc : PE X c tc) (hd : PE X d td)
    (hm : lastMarks [op, op', op3] [b, c, d] = false) : PE X (.Compare a [op, op', op3] [b, c, d] pos) (tChain3 r r' r3 ta tb tc td) := by
  refine ⟨fun pins s σ H Q I h => ?_⟩
  refine Compare_chain (thn (ha.run pins s σ H _ I h) fun v s1 ⟨x, H1, I1, r1, q1⟩ => chain_link (thn (hb.run pins s1 σ H1 _ I1 q1) fun u s2 ⟨y, H2, I2, r2, q2⟩ =>
    thn (ho pins s2 σ H2 x y v u _ I2 r1 r2 q2) fun d s3 ⟨z, H3, I3, r3, k, e, q3⟩ => ?_)) hm
  subst e
  cases r3
  refine wpAny_truthy_bool ?_
  cases k with
  | false => exact ite_ff ⟨.bl false, H3, I3, rfl, q3⟩
  | true =>
    refine ite_tt (chain_link (thn (hc.run pins s3 σ H3 _ I3 q3) fun w' s4 ⟨z', H4, I4, r4, q4⟩ => thn (ho' pins s4 σ H4 y z' u w' _ I4 r2 r4 q4) fun d2 s5 ⟨z2, H5, I5, r5, k2, e2, q5⟩ => ?_))
    subst e2
    cases r5
    refine wpAny_truthy_bool ?_
    cases k2 with
    | false => exact ite_ff ⟨.bl false, H5, I5, rfl, q5⟩
    | true => exact ite_tt (chain_last (thn (hd.run pins s5 σ H5 _ I5 q5) fun w2 s6 ⟨z3, H6, I6, r6, q6⟩ => ho3 pins s6 σ H6 z' z3 w' w2 Q I6 r4 r6 q6))
theorem pt_chain3 {op op' op3 : CmpOp} {r r' r3 : R2} {a b c d : Expr} {ta tb tc td : TE} {pos : Pos} (ho : OpR X (compareOp op) r) (ho' : OpR X (compareOp op') r') (ho3 : OpR X (compareOp op3) r3) (ha : PE X a ta) (hb : PE X b tb) (hc : PE X c tc) (hd : PE X d td)
    (hm : lastMarks [op, op', op3] [b, c, d] = false) : PT X (.Compare a [op, op', op3] [b, c, d] pos) (tTest (tChain3 r r' r3 ta tb tc td)) := by
  refine ⟨fun pins s σ H Q I h => ?_⟩
  refine isTrue_chain (thn (ha.run pins s σ H _ I h) fun v s1 ⟨x, H1, I1, r1, q1⟩ => test_link (thn (hb.run pins s1 σ H1 _ I1 q1) fun u s2 ⟨y, H2, I2, r2, q2⟩ =>
    thn (ho pins s2 σ H2 x y v u _ I2 r1 r2 q2) fun d s3 ⟨z, H3, I3, r3, k, e, q3⟩ => ?_)) hm
  subst e
  cases r3
  refine wpAny_truthy_bool ?_
  cases k with
  | false =>
    obtain ⟨k', e', q'⟩ := q3
    cases e'
    exact ite_ff ⟨H3, I3, q'⟩
  | true =>
    refine ite_tt (test_link (thn (hc.run pins s3 σ H3 _ I3 q3) fun w' s4 ⟨z', H4, I4, r4, q4⟩ => thn (ho' pins s4 σ H4 y z' u w' _ I4 r2 r4 q4) fun d2 s5 ⟨z2, H5, I5, r5, k2, e2, q5⟩ => ?_))
    subst e2
    cases r5
    refine wpAny_truthy_bool ?_
    cases k2 with
    | false =>
      obtain ⟨k', e', q'⟩ := q5
      cases e'
      exact ite_ff ⟨H5, I5, q'⟩
    | true =>
      refine ite_tt (test_last (thn (hd.run pins s5 σ H5 _ I5 q5) fun w2 s6 ⟨z3, H6, I6, r6, q6⟩ => thn (ho3 pins s6 σ H6 z' z3 w' w2 _ I6 r4 r6 q6) fun d' s7 ⟨z4, H7, I7, r7, k3, e3, q7⟩ => ?_))
      subst e3
      cases r7
      exact wpAny_truthy_bool ⟨H7, I7, q7⟩
end
end VI

/-! VI, part C: operators and built-ins. -/
namespace VI
open PySem L2 PyProof.Rows
mutual
def toPy : D → PyData
  | .non => .none
  | .bl b => .bool b
  | .int i => .int i
  | .str s => .str (toS s)
  | .lst xs => .list (toPys xs)
  | .tup xs => .tuple (toPys xs)
  | _ => .none
def toPys : List D → List PyData
  | [] => []
  | x :: xs => toPy x :: toPys xs
end
section
variable {K : PySem.W.Frag} {vw : Vw} {H : Hp}
mutual
theorem dp_of (e : Ex vw.F H) : ∀ {n : Nat} {v : V} {d : D}, Rep K vw v d → D.plain n d = true → Dp K H v (toPy d)
  | _, _, _, .non, _ => .non
  | _, _, _, .bl b, _ => .bl b
  | _, _, _, .int i, _ => .int i
  | _, _, _, .str s, _ => .str _
  | 0, _, _, .tup h r, p => by simp [D.plain] at p
  | n + 1, _, _, .tup h r, p => .tup (e.sqT h) (dps_of e (n := n) r (by simpa [D.plain] using p))
  | 0, _, _, .lst h r, p => by simp [D.plain] at p
  | n + 1, _, _, .lst h r, p => .lst (SqL.of (e _ _ h)) (dps_of e (n := n) r (by simpa [D.plain] using p))
  | 0, _, _, .scr h r, p => by simp [D.plain] at p
  | n + 1, _, _, .scr h r, p => by simp [D.plain] at p
  | 0, _, _, .dct h r, p => by simp [D.plain] at p
  | n + 1, _, _, .dct h r, p => by simp [D.plain] at p
  | 0, _, _, .ref h, p => by simp [D.plain] at p
  | n + 1, _, _, .ref h, p => by simp [D.plain] at p
theorem dps_of (e : Ex vw.F H) : ∀ {n : Nat} {v : List V} {d : List D}, Reps K vw v d → D.plains n d = true → DpAll K H v (toPys d)
  | _, _, _, .nil, _ => .nil
  | n, _, _, .cons h r, p => by
    have p := Bool.and_eq_true_iff.mp (by simpa only [D.plains] using p)
    exact .cons (dp_of e h p.1) (dps_of e r p.2)
end
end
theorem plain_dct (n : Nat) (a b : List D) : D.plain n (.dct a b) = false := by cases n <;> rfl
theorem plain_ref (n : Nat) (a : Nat) : D.plain n (.ref a) = false := by cases n <;> rfl
theorem plain_scr (n : Nat) (a : List D) : D.plain n (.scr a) = false := by cases n <;> rfl
theorem toS_beq (a b : List Nat) : (toS a == toS b) = (a == b) := by
  rw [Bool.eq_iff_iff, beq_iff_eq, beq_iff_eq]
  exact ⟨toS_inj, congrArg _⟩
mutual
theorem eqv_py : ∀ (n m : Nat) (x y : D), D.plain n x = true → D.plain m y = true → PyData.eqv (toPy x) (toPy y) = D.eqv x y
  | n, m, .str a, .str b, _, _ => toS_beq a b
  | n + 1, m + 1, .lst a, .lst b, p, q => eqvs_py n m a b (by simpa [D.plain] using p) (by simpa [D.plain] using q)
  | n + 1, m + 1, .tup a, .tup b, p, q => eqvs_py n m a b (by simpa [D.plain] using p) (by simpa [D.plain] using q)
  | 0, m, .lst a, .lst b, p, q => by simp [D.plain] at p
  | 0, m, .tup a, .tup b, p, q => by simp [D.plain] at p
  | n + 1, 0, .lst a, .lst b, p, q => by simp [D.plain] at q
  | n + 1, 0, .tup a, .tup b, p, q => by simp [D.plain] at q
  | n, m, .dct a b, y, p, q => by simp [plain_dct] at p
  | n, m, .ref a, y, p, q => by simp [plain_ref] at p
  | n, m, .scr a, y, p, q => by simp [plain_scr] at p
  | n, m, x, .dct a b, p, q => by simp [plain_dct] at q
  | n, m, x, .ref a, p, q => by simp [plain_ref] at q
  | n, m, x, .scr a, p, q => by simp [plain_scr] at q
  | n, m, .non, .non, _, _ | n, m, .non, .bl _, _, _ | n, m, .non, .int _, _, _ | n, m, .non, .str _, _, _ | n, m, .non, .lst _, _, _ | n, m, .non, .tup _, _, _ => rfl
  | n, m, .bl _, .non, _, _ | n, m, .bl _, .bl _, _, _ | n, m, .bl _, .int _, _, _ | n, m, .bl _, .str _, _, _ | n, m, .bl _, .lst _, _, _ | n, m, .bl _, .tup _, _, _ => rfl
  | n, m, .int _, .non, _, _ | n, m, .int _, .bl _, _, _ | n, m, .int _, .int _, _, _ | n, m, .int _, .str _, _, _ | n, m, .int _, .lst _, _, _ | n, m, .int _, .tup _, _, _ => rfl
  | n, m, .str _, .non, _, _ | n, m, .str _, .bl _, _, _ | n, m, .str _, .int _, _, _ | n, m, .str _, .lst _, _, _ | n, m, .str _, .tup _, _, _ => rfl
  | n, m, .lst _, .non, _, _ | n, m, .lst _, .bl _, _, _ | n, m, .lst _, .int _, _, _ | n, m, .lst _, .str _, _, _ | n, m, .lst _, .tup _, _, _ => rfl
  | n, m, .tup _, .non, _, _ | n, m, .tup _, .bl _, _, _ | n, m, .tup _, .int _, _, _ | n, m, .tup _, .str _, _, _ | n, m, .tup _, .lst _, _, _ => rfl
theorem eqvs_py : ∀ (n m : Nat) (x y : List D), D.plains n x = true → D.plains m y = true → PyData.eqvAll (toPys x) (toPys y) = D.eqvs x y
  | _, _, [], [], _, _ => rfl
  | _, _, [], _ :: _, _, _ => rfl
  | _, _, _ :: _, [], _, _ => rfl
  | n, m, x :: xs, y :: ys, p, q => by
    have p := Bool.and_eq_true_iff.mp (by simpa only [D.plains] using p)
    have q := Bool.and_eq_true_iff.mp (by simpa only [D.plains] using q)
    simp only [toPys, PyData.eqvAll, D.eqvs]
    rw [eqv_py n m x y p.1 q.1, eqvs_py n m xs ys p.2 q.2]
end
mutual
theorem lay_py : ∀ (n : Nat) (x : D), D.plain n x = true → (toPy x).canLay0 = true ∧ (toPy x).depth ≤ n
  | n, .non, _ => ⟨rfl, Nat.zero_le _⟩
  | n, .bl _, _ => ⟨rfl, Nat.zero_le _⟩
  | n, .int _, _ => ⟨rfl, Nat.zero_le _⟩
  | n, .str s, p => by
    refine ⟨?_, Nat.zero_le _⟩
    have p : (s.all fun c => decide (c < 1114112)) = true := by cases n <;> simpa [D.plain] using p
    simp only [toPy, PyData.canLay0, PyData.strOk, toS]
    simpa using p
  | 0, .lst xs, p => by simp [D.plain] at p
  | 0, .tup xs, p => by simp [D.plain] at p
  | n + 1, .lst xs, p => by
    have h := lays_py n xs (by simpa [D.plain] using p)
    refine ⟨by simpa [toPy, PyData.canLay0] using h.1, ?_⟩
    simp only [toPy, PyData.depth]; omega
  | n + 1, .tup xs, p => by
    have h := lays_py n xs (by simpa [D.plain] using p)
    refine ⟨by simpa [toPy, PyData.canLay0] using h.1, ?_⟩
    simp only [toPy, PyData.depth]; omega
  | n, .dct a b, p => by simp [plain_dct] at p
  | n, .ref a, p => by simp [plain_ref] at p
  | n, .scr a, p => by simp [plain_scr] at p
theorem lays_py : ∀ (n : Nat) (x : List D), D.plains n x = true → PyData.canLayAll0 (toPys x) = true ∧ PyData.depthAll (toPys x) ≤ n
  | _, [], _ => ⟨rfl, Nat.zero_le _⟩
  | n, x :: xs, p => by
    have p := Bool.and_eq_true_iff.mp (by simpa only [D.plains] using p)
    have h1 := lay_py n x p.1
    have h2 := lays_py n xs p.2
    simp only [toPys, PyData.canLayAll0, PyData.depthAll]
    exact ⟨by rw [h1.1, h2.1]; rfl, by omega⟩
end
theorem shaped_py {x : D} (p : D.plain 60 x = true) : SeqAt.shaped (toPy x) = true := by
  obtain ⟨h1, h2⟩ := lay_py 60 x p
  unfold SeqAt.shaped
  rw [h1, decide_eq_true (by omega)]; rfl
theorem lim_le {n : Nat} (h : n ≤ lim) : n ≤ sizeLine := Nat.le_trans h (by decide)
theorem lim_lt {n : Nat} (h : n < lim) : n < sizeLine := Nat.lt_of_lt_of_le h (by decide)
/-! ### operators -/
def binOf : Op → Option Operator
  | .add => some .Add | .sub => some .Sub | .mul => some .Mult | .fdiv => some .FloorDiv | .mod => some .Mod | .pow => some .Pow
  | _ => none
def cmpOf : Op → Option CmpOp
  | .lt => some .Lt | .le => some .LtE | .gt => some .Gt | .ge => some .GtE | .eq => some .Eq | .ne => some .NotEq | .isn => some .Is | .notn => some .IsNot | .inn => some .In | .nin => some .NotIn
  | _ => none
section
variable {X : Cx} {nm : Nm}
/-- an operation whose answer is a scalar: nothing new -/
theorem RdO.done {g : Hh → D → D → Option D} {x y : V} {H : Hp} {Q : VK} {vw : Vw} {h : Hh} {r : D} {v : V} (sr : SR X.K nm vw H h) (k : ∀ vw' H' v, Stp vw H vw' H' → SR X.K nm vw' H' h → Rep X.K vw' v r → Q v H') (rv : Rep X.K vw v r) : Q v H := k vw H v Stp.rfl sr rv
theorem toS_app (a b : List Nat) : toS a ++ toS b = toS (a ++ b) := by
  show Str.append (toS a) (toS b) = _
  simp [toS, Str.append]
theorem ops_add : OpR X (binaryOp .Add) (RdO X.K nm fun h => op2 h .add) := OpR.by fun x y H Q ⟨vw, h, d, e, r, sr, rx, ry, ev, k⟩ => by
  cases rx <;> cases ry <;> simp only [op2, reduceCtorEq, Option.ite_none_right_eq_some, Option.some.injEq] at ev
  · subst ev
    exact ⟨_, op_add, _, _, rfl, rfl, k vw H _ Stp.rfl sr (.int _)⟩
  · obtain ⟨hl, ev⟩ := ev
    subst ev
    exact ⟨_, op_add_str, _, _, rfl, rfl, by rw [toS_len, toS_len]; exact lim_le hl, k vw H _ Stp.rfl sr (by rw [toS_app]; exact .str _)⟩
  · rename_i a xs ds ha ra b ys es hb rb _
    obtain ⟨hl, ev⟩ := ev
    subst ev
    refine ⟨_, op_cat, _, _, _, _, rfl, rfl, sr.ex _ _ ha, sr.ex _ _ hb, by rw [ra.length, rb.length]; exact lim_le hl, fun p hp => ?_⟩
    have st := sr.stF (.lst (xs ++ ys)) hp
    have le := st.le
    exact k _ _ _ st (sr.newF hp) (.lst upd_same ((ra.mono le).append (rb.mono le)))
theorem ops_sub : OpR X (binaryOp .Sub) (RdO X.K nm fun h => op2 h .sub) := OpR.by fun x y H Q ⟨vw, h, d, e, r, sr, rx, ry, ev, k⟩ => by
  cases rx <;> cases ry <;> simp only [op2, reduceCtorEq, Option.ite_none_right_eq_some, Option.some.injEq] at ev
  subst ev
  exact ⟨_, op_sub, _, _, rfl, rfl, k vw H _ Stp.rfl sr (.int _)⟩
theorem reps_rep {K : PySem.W.Frag} {vw : Vw} {xs : List V} {ds : List D} (r : Reps K vw xs ds) : ∀ m : Nat, Reps K vw (List.replicate m xs).flatten (List.replicate m ds).flatten
  | 0 => .nil
  | m + 1 => by
    rw [List.replicate_succ, List.flatten_cons, List.replicate_succ, List.flatten_cons]
    exact r.append (reps_rep r m)
theorem small_ok {i : Int} (h : small i = true) : -(2 ^ 64) < i ∧ i < 2 ^ 64 := by
  have h : i.natAbs < 18446744073709551616 := Nat.blt_eq.mp h
  constructor <;> omega
theorem ops_mul : OpR X (binaryOp .Mult) (RdO X.K nm fun h => op2 h .mul) := OpR.by fun x y H Q ⟨vw, h, d, e, r, sr, rx, ry, ev, k⟩ => by
  cases rx <;> cases ry <;> simp only [op2, reduceCtorEq, Option.ite_none_right_eq_some, Option.some.injEq] at ev
  · obtain ⟨hl, ev⟩ := ev
    subst ev
    refine ⟨_, op_mul, _, _, rfl, rfl, ?_, k vw H _ Stp.rfl sr (.int _)⟩
    rcases Bool.or_eq_true_iff.mp hl with q | q
    · exact .inl (small_ok q)
    · exact .inr (small_ok q)
  · obtain ⟨⟨h0, h1, h2⟩, ev⟩ := ev
    subst ev
    exact ⟨_, op_mulS, _, _, rfl, rfl, h0, h1, h2, k vw H _ Stp.rfl sr (.str _)⟩
  · rename_i a xs ds ha ra j _
    obtain ⟨⟨h0, h1, h2⟩, ev⟩ := ev
    subst ev
    refine ⟨_, op_rep, _, _, _, rfl, rfl, sr.ex _ _ ha, by omega, by omega, ?_, fun p hp => ?_⟩
    · rw [ra.length, sizeLine_eq]
      have : ds.length * j.toNat ≤ 200 * 200 := Nat.mul_le_mul h2 (by omega)
      omega
    · have st := sr.stF (.lst (List.replicate j.toNat xs).flatten) hp
      refine k _ _ _ st (sr.newF hp) (.lst upd_same ?_)
      exact reps_rep (ra.mono st.le) _
theorem ops_fdiv : OpR X (binaryOp .FloorDiv) (RdO X.K nm fun h => op2 h .fdiv) := OpR.by fun x y H Q ⟨vw, h, d, e, r, sr, rx, ry, ev, k⟩ => by
  cases rx <;> cases ry <;> simp only [op2, reduceCtorEq, Option.ite_none_right_eq_some, Option.some.injEq] at ev
  obtain ⟨hl, ev⟩ := ev
  subst ev
  exact ⟨_, op_fdiv, _, _, rfl, rfl, hl, k vw H _ Stp.rfl sr (.int _)⟩
theorem ops_mod : OpR X (binaryOp .Mod) (RdO X.K nm fun h => op2 h .mod) := OpR.by fun x y H Q ⟨vw, h, d, e, r, sr, rx, ry, ev, k⟩ => by
  cases rx <;> cases ry <;> simp only [op2, reduceCtorEq, Option.ite_none_right_eq_some, Option.some.injEq] at ev
  obtain ⟨hl, ev⟩ := ev
  subst ev
  exact ⟨_, op_mod, _, _, rfl, rfl, hl, k vw H _ Stp.rfl sr (.int _)⟩
def CPowW (i j : Int) : Prop := 0 ≤ j ∧ j ≤ 1000 ∧ i.natAbs < 2 ^ 10000
theorem op_powW : OpR X (binaryOp .Pow) (rI CPowW fun i j => .int (i ^ j.toNat)) := opI fun i j _ _ _ _ _ hc q => by
  obtain ⟨h0, h1, h2⟩ := hc
  refine pow_int h0 ?_ q
  have b : Builtin.Int.intBits i ≤ 10000 := by
    unfold Builtin.Int.intBits
    split
    · omega
    · rename_i hz
      have hne : i.natAbs ≠ 0 := by
        intro z
        have : i = 0 := Int.natAbs_eq_zero.mp z
        subst this
        simp at hz
      have := (Nat.log2_lt hne).mpr h2
      omega
  have b' : (Builtin.Int.intBits i : Int) ≤ 10000 := by omega
  calc (Builtin.Int.intBits i : Int) * j ≤ 10000 * 1000 := Int.mul_le_mul b' h1 h0 (by decide)
    _ ≤ 2 ^ 27 := by decide
theorem ops_pow : OpR X (binaryOp .Pow) (RdO X.K nm fun h => op2 h .pow) := OpR.by fun x y H Q ⟨vw, h, d, e, r, sr, rx, ry, ev, k⟩ => by
  cases rx <;> cases ry <;> simp only [op2, reduceCtorEq, Option.ite_none_right_eq_some, Option.some.injEq] at ev
  obtain ⟨hl, ev⟩ := ev
  subst ev
  exact ⟨_, op_powW, _, _, rfl, rfl, hl, k vw H _ Stp.rfl sr (.int _)⟩
theorem ops_bin {o : Op} {b : Operator} (e : binOf o = some b) : OpR X (binaryOp b) (RdO X.K nm fun h => op2 h o) := by
  cases o <;> simp only [binOf, reduceCtorEq, Option.some.injEq] at e <;> subst e
  · exact ops_add
  · exact ops_sub
  · exact ops_mul
  · exact ops_fdiv
  · exact ops_mod
  · exact ops_pow

/-! ### comparisons -/
theorem ops_lt : OpR X (compareOp .Lt) (RdO X.K nm fun h => op2 h .lt) := OpR.by fun x y H Q ⟨vw, h, d, e, r, sr, rx, ry, ev, k⟩ => by
  cases rx <;> cases ry <;> simp only [op2, reduceCtorEq, Option.ite_none_right_eq_some, Option.some.injEq] at ev
  · subst ev
    exact ⟨_, op_lt, _, _, rfl, rfl, k vw H _ Stp.rfl sr (.bl _)⟩
  · subst ev
    exact ⟨_, op_lt_str, _, _, rfl, rfl, k vw H _ Stp.rfl sr (by rw [toS_cps, toS_cps]; exact .bl _)⟩
theorem ops_le : OpR X (compareOp .LtE) (RdO X.K nm fun h => op2 h .le) := OpR.by fun x y H Q ⟨vw, h, d, e, r, sr, rx, ry, ev, k⟩ => by
  cases rx <;> cases ry <;> simp only [op2, reduceCtorEq, Option.ite_none_right_eq_some, Option.some.injEq] at ev
  subst ev
  exact ⟨_, op_le, _, _, rfl, rfl, k vw H _ Stp.rfl sr (.bl _)⟩
theorem ops_gt : OpR X (compareOp .Gt) (RdO X.K nm fun h => op2 h .gt) := OpR.by fun x y H Q ⟨vw, h, d, e, r, sr, rx, ry, ev, k⟩ => by
  cases rx <;> cases ry <;> simp only [op2, reduceCtorEq, Option.ite_none_right_eq_some, Option.some.injEq] at ev
  subst ev
  exact ⟨_, op_gt, _, _, rfl, rfl, k vw H _ Stp.rfl sr (.bl _)⟩
theorem ops_ge : OpR X (compareOp .GtE) (RdO X.K nm fun h => op2 h .ge) := OpR.by fun x y H Q ⟨vw, h, d, e, r, sr, rx, ry, ev, k⟩ => by
  cases rx <;> cases ry <;> simp only [op2, reduceCtorEq, Option.ite_none_right_eq_some, Option.some.injEq] at ev
  subst ev
  exact ⟨_, op_ge, _, _, rfl, rfl, k vw H _ Stp.rfl sr (.bl _)⟩
theorem plain_flat {d : D} (f : flat d = true) (h : ∀ s, d ≠ .str s) : D.plain 60 d = true := by
  cases d <;> first | rfl | (exact absurd rfl (h _)) | (simp [flat] at f)
/-- what == asks of two data -/
theorem eq_data {K : PySem.W.Frag} {vw : Vw} {H : Hp} {x y : V} {d e : D} {b : Bool} (ex : Ex vw.F H) (rx : Rep K vw x d) (ry : Rep K vw y e) (q : eqD d e = some b) :
    (scal x y = true ∧ b = decide (x = y)) ∨ (∃ a c, Dp K H x a ∧ Dp K H y c ∧ SeqAt.shaped a = true ∧ SeqAt.shaped c = true ∧ b = PyData.eqv a c) := by
  have pl : D.plain 60 d = true → D.plain 60 e = true → some (D.eqv d e) = some b → ∃ a c, Dp K H x a ∧ Dp K H y c ∧ SeqAt.shaped a = true ∧ SeqAt.shaped c = true ∧ b = PyData.eqv a c := fun p1 p2 q =>
    ⟨toPy d, toPy e, dp_of ex rx p1, dp_of ex ry p2, shaped_py p1, shaped_py p2, by rw [eqv_py 60 60 d e p1 p2]; exact (Option.some.inj q).symm⟩
  unfold eqD at q
  split at q
  · rename_i hf
    have hf := Bool.and_eq_true_iff.mp hf
    cases rx <;> simp only [flat, Bool.false_eq_true, and_false, false_and] at hf <;> cases ry <;> simp only [flat, Bool.false_eq_true, and_false, false_and] at hf <;>
      first
      | exact .inr (pl rfl rfl q)
      | (refine .inl ⟨rfl, ?_⟩; rw [← Option.some.inj q]; simp only [D.eqv]; rfl)
      | skip
    rename_i s t _
    refine .inl ⟨rfl, ?_⟩
    rw [← Option.some.inj q]
    simp only [D.eqv]
    by_cases hst : s = t
    · subst hst; simp
    · have : ¬ V.str (toS s) = V.str (toS t) := fun z => hst (toS_inj (V.str.inj z))
      rw [decide_eq_false this]
      simpa using hst
  · split at q
    · rename_i hp
      have hp := Bool.and_eq_true_iff.mp hp
      exact .inr (pl hp.1 hp.2 q)
    · cases q
theorem ops_eq (hu : X.A.units + 64 < cLine) : OpR X (compareOp .Eq) (RdO X.K nm fun h => op2 h .eq) := OpR.by fun x y H Q ⟨vw, h, d, e, r, sr, rx, ry, ev, k⟩ => by
  have ev : (eqD d e).map D.bl = some r := by cases d <;> exact ev
  obtain ⟨b, hb, rfl⟩ := Option.map_eq_some_iff.mp ev
  rcases eq_data sr.ex rx ry hb with ⟨h1, h2⟩ | ⟨a, c, h1, h2, h3, h4, h5⟩
  · exact ⟨_, op_eq, h1, by rw [← h2]; exact k vw H _ Stp.rfl sr (.bl _)⟩
  · exact ⟨_, op_eqD hu, a, c, h1, h2, h3, h4, by rw [← h5]; exact k vw H _ Stp.rfl sr (.bl _)⟩
theorem ops_ne (hu : X.A.units + 64 < cLine) : OpR X (compareOp .NotEq) (RdO X.K nm fun h => op2 h .ne) := OpR.by fun x y H Q ⟨vw, h, d, e, r, sr, rx, ry, ev, k⟩ => by
  have ev : (eqD d e).map (fun b => D.bl !b) = some r := by cases d <;> exact ev
  obtain ⟨b, hb, rfl⟩ := Option.map_eq_some_iff.mp ev
  rcases eq_data sr.ex rx ry hb with ⟨h1, h2⟩ | ⟨a, c, h1, h2, h3, h4, h5⟩
  · exact ⟨_, op_ne, h1, by rw [← h2]; exact k vw H _ Stp.rfl sr (.bl _)⟩
  · exact ⟨_, op_neD hu, a, c, h1, h2, h3, h4, by rw [← h5]; exact k vw H _ Stp.rfl sr (.bl _)⟩
theorem ops_isn : OpR X (compareOp .Is) (RdO X.K nm fun h => op2 h .isn) := OpR.by fun x y H Q ⟨vw, h, d, e, r, sr, rx, ry, ev, k⟩ => by
  cases ry <;> simp only [op2, reduceCtorEq, Option.some.injEq] at ev
  refine ⟨_, op_isN, rfl, ?_⟩
  subst ev
  refine k vw H _ Stp.rfl sr ?_
  cases rx <;> exact .bl _
theorem ops_notn : OpR X (compareOp .IsNot) (RdO X.K nm fun h => op2 h .notn) := OpR.by fun x y H Q ⟨vw, h, d, e, r, sr, rx, ry, ev, k⟩ => by
  cases ry <;> simp only [op2, reduceCtorEq, Option.some.injEq] at ev
  refine ⟨_, op_notN, rfl, ?_⟩
  subst ev
  refine k vw H _ Stp.rfl sr ?_
  cases rx <;> exact .bl _
end
end VI

/-! VI, part D: in, built-ins, isinstance, subscripts, slices. -/
namespace VI
open PySem L2 PyProof.Rows
section
variable {K : PySem.W.Frag} {nm : Nm} {vw : Vw} {H : Hp} {h : Hh}
/-- a list to be read -/
theorem lst_of (sr : SR K nm vw H h) {v : V} {d : D} {xs : List D} (r : Rep K vw v d) (e : lstOf h d = some xs) : ∃ a vs, v = .ref a ∧ SqL K H a vs ∧ Reps K vw vs xs := by
  cases r with
  | lst ha rr =>
    have e := Option.some.inj e
    subst e
    exact ⟨_, _, rfl, SqL.of (sr.ex _ _ ha), rr⟩
  | scr ha rr =>
    have e := Option.some.inj e
    subst e
    exact ⟨_, _, rfl, sr.ex.sqL ha, rr⟩
  | ref hl =>
    obtain ⟨o, ho, rr⟩ := sr.cellAt hl
    simp only [lstOf] at e
    rw [ho] at e
    cases o with
    | lst ys =>
      simp only [Option.some.injEq] at e
      subst e
      obtain ⟨vs, h1, h2⟩ := rr
      exact ⟨_, vs, rfl, SqL.of h1, h2⟩
    | _ => simp at e
  | _ => cases e
theorem dct_of (sr : SR K nm vw H h) {v : V} {d : D} {ks vs : List D} (r : Rep K vw v d) (e : dctOf h d = some (ks, vs)) : ∃ a kvs, v = .ref a ∧ H a = some (.dK kvs) ∧ ks = kvs.map (fun p => keyD p.1) ∧ Reps K vw (kvs.map (·.2)) vs := by
  cases r with
  | dct ha rr =>
    simp only [dctOf, Option.some.injEq, Prod.mk.injEq] at e
    obtain ⟨e1, e2⟩ := e
    subst e1 e2
    exact ⟨_, _, rfl, sr.ex _ _ ha, rfl, rr⟩
  | ref hl =>
    obtain ⟨o, ho, rr⟩ := sr.cellAt hl
    simp only [dctOf] at e
    rw [ho] at e
    cases o with
    | dct ys zs =>
      simp only [Option.some.injEq, Prod.mk.injEq] at e
      obtain ⟨e1, e2⟩ := e
      subst e1 e2
      obtain ⟨kvs, h1, h2, h3⟩ := rr
      exact ⟨_, kvs, rfl, h1, h2, h3⟩
    | _ => simp at e
  | _ => cases e
theorem flat_of {v : V} {d : D} (r : Rep K vw v d) (f : flat d = true) : flatV v = true := by
  cases r <;> first | rfl | (simp [flat] at f)
theorem eqV_of {v w : V} {d e : D} (r : Rep K vw v d) (s : Rep K vw w e) (f : flat d = true) (g : flat e = true) : eqV v w = D.eqv d e := by
  cases r <;> simp only [flat, Bool.false_eq_true] at f <;> cases s <;> simp only [flat, Bool.false_eq_true] at g <;> first | rfl | exact toS_beq _ _
theorem flats_of : ∀ {vs : List V} {ds : List D}, Reps K vw vs ds → ds.all flat = true → vs.all flatV = true
  | _, _, .nil, _ => rfl
  | _, _, .cons r t, f => by
    rw [List.all_cons, Bool.and_eq_true] at f
    rw [List.all_cons, flat_of r f.1, flats_of t f.2]; rfl
theorem inV_of {x : V} {e : D} (s : Rep K vw x e) (g : flat e = true) : ∀ {vs : List V} {ds : List D}, Reps K vw vs ds → ds.all flat = true → inV x vs = ds.any fun z => D.eqv z e
  | _, _, .nil, _ => rfl
  | v :: vs, d :: ds, .cons r t, f => by
    rw [List.all_cons, Bool.and_eq_true] at f
    have q := inV_of s g t f.2
    unfold inV at q ⊢
    rw [List.any_cons, List.any_cons, q, eqV_of r s f.1 g]
theorem key_of' {v : V} {d : D} (r : Rep K vw v d) (f : isKey d = true) : ∃ k : Key, v = kV k ∧ d = keyD k := by
  cases r <;> simp only [isKey, Bool.false_eq_true] at f
  · exact ⟨.inl _, rfl, rfl⟩
  · exact ⟨.inr _, rfl, by rw [keyD, toS_cps]⟩
theorem keyD_eqv (a b : Key) : D.eqv (keyD a) (keyD b) = decide (a = b) := by
  cases a with
  | inl i => cases b with
    | inl j => simp only [keyD, D.eqv, key_ll]
    | inr y => rw [key_lr]; rfl
  | inr x => cases b with
    | inl j => rw [key_rl]; rfl
    | inr y =>
      rw [key_rr]
      show (x.cps.toList == y.cps.toList) = _
      by_cases e : x = y
      · subst e; simp
      · rw [decide_eq_false e]
        have : x.cps.toList ≠ y.cps.toList := fun q => e (by rw [← toS_of x, ← toS_of y, q])
        simpa using this
theorem keyAt_of (k : Key) : ∀ {kvs : List (Key × V)} {vs : List D}, Reps K vw (kvs.map (·.2)) vs →
    (∀ d, keyAt (keyD k) (kvs.map fun p => keyD p.1) vs = some d → ∃ v, valV kvs k = some v ∧ Rep K vw v d) ∧ (keyAt (keyD k) (kvs.map fun p => keyD p.1) vs = none → valV kvs k = none)
  | [], _, .nil => ⟨fun _ e => by simp [keyAt] at e, fun _ => rfl⟩
  | p :: kvs, v :: vs, .cons r t => by
    obtain ⟨h1, h2⟩ := keyAt_of k t
    simp only [List.map_cons, keyAt, keyD_eqv]
    by_cases e : p.1 = k
    · rw [valV_pos e]
      simp only [e, decide_true, if_true]
      exact ⟨fun d q => ⟨_, rfl, by cases q; exact r⟩, fun q => by cases q⟩
    · rw [valV_neg e]
      simp only [e, decide_false, Bool.false_eq_true, if_false]
      exact ⟨h1, h2⟩
theorem keyAt_isSome (k : Key) {kvs : List (Key × V)} {vs : List D} (r : Reps K vw (kvs.map (·.2)) vs) : (keyAt (keyD k) (kvs.map fun p => keyD p.1) vs).isSome = (valV kvs k).isSome := by
  obtain ⟨h1, h2⟩ := keyAt_of k r
  cases e : keyAt (keyD k) (kvs.map fun p => keyD p.1) vs with
  | none => rw [h2 e]; rfl
  | some d => obtain ⟨v, q, _⟩ := h1 d e; rw [q]; rfl
end
section
variable {X : Cx} {nm : Nm}
theorem op_dIn (hu : X.A.units + 64 < cLine) : OpR X (compareOp .In) (fun x y H Q => ∃ a kvs k, y = .ref a ∧ H a = some (.dK kvs) ∧ x = kV k ∧ Q (.bl (valV kvs k).isSome) H) := by
  intro pins s σ H x y v u Q I rx ry ⟨a, kvs, k, e1, e2, e3, q⟩
  subst e1 e3
  cases (show u = Value.ref a from ry)
  exact d_in (by omega) I (DGet.k e2) rx fun s' I' => ⟨.bl _, H, I', rfl, q⟩
theorem op_dNin (hu : X.A.units + 64 < cLine) : OpR X (compareOp .NotIn) (fun x y H Q => ∃ a kvs k, y = .ref a ∧ H a = some (.dK kvs) ∧ x = kV k ∧ Q (.bl (!(valV kvs k).isSome)) H) := by
  intro pins s σ H x y v u Q I rx ry ⟨a, kvs, k, e1, e2, e3, q⟩
  subst e1 e3
  cases (show u = Value.ref a from ry)
  exact d_notIn (by omega) I (DGet.k e2) rx fun s' I' => ⟨.bl _, H, I', rfl, q⟩
/-- x in y, told apart -/
theorem any_py {d : D} (hd : D.plain 60 d = true) : ∀ {ys : List D}, D.plains 59 ys = true → ((toPys ys).any fun z => PyData.eqv z (toPy d)) = ys.any fun z => D.eqv z d
  | [], _ => rfl
  | y :: ys, h => by
    have h := Bool.and_eq_true_iff.mp (by simpa only [D.plains] using h)
    simp only [toPys, List.any_cons]
    rw [eqv_py 59 60 y d h.1 hd, any_py hd h.2]
theorem in_data {vw : Vw} {H : Hp} {h : Hh} {x y : V} {d e : D} {b : Bool} (sr : SR X.K nm vw H h) (rx : Rep X.K vw x d) (ry : Rep X.K vw y e) (q : inD h d e = some b) :
    (∃ (c : Nat) (z : Str), x = .str ⟨#[c]⟩ ∧ y = .str z ∧ b = decide (c ∈ z.cps.toList)) ∨ (∃ p xs, y = .ref p ∧ (SqL X.K H p xs ∨ SqT X.K H p xs) ∧ flatV x = true ∧ xs.all flatV = true ∧ b = inV x xs) ∨
    (∃ a kvs k, y = .ref a ∧ H a = some (.dK kvs) ∧ x = kV k ∧ b = (valV kvs k).isSome) ∨
    ∃ dd ds, Dp X.K H x dd ∧ Dp X.K H y (.tuple ds) ∧ SeqAt.shaped dd = true ∧ SeqAt.shaped (.tuple ds) = true ∧ b = ds.any fun z => PyData.eqv z dd := by
  have other : (match lstOf h e with
    | some ys => if flat d && ys.all flat then some (ys.any fun z => D.eqv z d) else none
    | none => match dctOf h e with
      | some (ks, vs) => if isKey d && ks.all isKey then some (keyAt d ks vs).isSome else none
      | none => none) = some b → (∃ p xs, y = .ref p ∧ (SqL X.K H p xs ∨ SqT X.K H p xs) ∧ flatV x = true ∧ xs.all flatV = true ∧ b = inV x xs) ∨
    ∃ a kvs k, y = .ref a ∧ H a = some (.dK kvs) ∧ x = kV k ∧ b = (valV kvs k).isSome := fun q => by
    cases e1 : lstOf h e with
    | some ys =>
      rw [e1] at q
      simp only [Option.ite_none_right_eq_some, Option.some.injEq, Bool.and_eq_true] at q
      obtain ⟨⟨f1, f2⟩, q⟩ := q
      obtain ⟨a, vs, ea, hs, r⟩ := lst_of sr ry e1
      exact .inl ⟨a, vs, ea, .inl hs, flat_of rx f1, flats_of r f2, by rw [inV_of rx f1 r f2]; exact q.symm⟩
    | none =>
      rw [e1] at q
      cases e2 : dctOf h e with
      | none => rw [e2] at q; cases q
      | some p =>
        obtain ⟨ks, vs⟩ := p
        rw [e2] at q
        simp only [Option.ite_none_right_eq_some, Option.some.injEq, Bool.and_eq_true] at q
        obtain ⟨⟨f1, f2⟩, q⟩ := q
        obtain ⟨a, kvs, ea, hs, ek, r⟩ := dct_of sr ry e2
        obtain ⟨k, hx, hd⟩ := key_of' rx f1
        subst ek
        rw [hd, keyAt_isSome k r] at q
        exact .inr ⟨a, kvs, k, ea, hs, hx, q.symm⟩
  unfold inD at q
  split at q
  · split at q
    · rename_i s _ c
      cases rx; cases ry
      refine .inl ⟨c, toS s, rfl, rfl, ?_⟩
      rw [toS_cps]
      have : s.contains c = b := Option.some.inj q
      rw [← this, List.contains_eq_mem]
    · cases q
  · rename_i ys
    split at q
    · rename_i ff
      obtain ⟨f1, f2⟩ := Bool.and_eq_true_iff.mp ff
      have q := Option.some.inj q
      cases ry
      rename_i a vs ha r
      exact .inr (.inl ⟨_, _, rfl, .inr (sr.ex.sqT ha), flat_of rx f1, flats_of r f2, by rw [inV_of rx f1 r f2]; exact q.symm⟩)
    · simp only [Option.ite_none_right_eq_some, Option.some.injEq, Bool.and_eq_true] at q
      obtain ⟨⟨f1, f2⟩, q⟩ := q
      refine .inr (.inr (.inr ⟨toPy d, toPys ys, dp_of sr.ex rx f1, dp_of sr.ex ry f2, shaped_py f1, shaped_py (x := .tup ys) f2, ?_⟩))
      rw [← q]
      exact (any_py f1 (show D.plains 59 ys = true by simpa [D.plain] using f2)).symm
  · rcases other q with z | z
    · exact .inr (.inl z)
    · exact .inr (.inr (.inl z))
theorem ops_in (hu : X.A.units + 65 < cLine) : OpR X (compareOp .In) (RdO X.K nm fun h => op2 h .inn) := OpR.by fun x y H Q ⟨vw, h, d, e, r, sr, rx, ry, ev, k⟩ => by
  have ev : (inD h d e).map D.bl = some r := by cases d <;> exact ev
  obtain ⟨b, hb, rfl⟩ := Option.map_eq_some_iff.mp ev
  rcases in_data sr rx ry hb with ⟨c, z, h1, h2, h3⟩ | ⟨p, xs, h1, h2, h3, h4, h5⟩ | ⟨a, kvs, kk, h1, h2, h3, h4⟩ | ⟨dd, ds, h1, h2, h3, h4, h5⟩
  · exact ⟨_, op_in_sign, c, z, h1, h2, by rw [← h3]; exact k vw H _ Stp.rfl sr (.bl _)⟩
  · exact ⟨_, op_in_seq, p, xs, h1, h2, h3, h4, by rw [← h5]; exact k vw H _ Stp.rfl sr (.bl _)⟩
  · exact ⟨_, op_dIn (by omega), a, kvs, kk, h1, h2, h3, by rw [← h4]; exact k vw H _ Stp.rfl sr (.bl _)⟩
  · exact ⟨_, op_inT hu, dd, ds, h1, h2, h3, h4, by rw [← h5]; exact k vw H _ Stp.rfl sr (.bl _)⟩
theorem ops_nin (hu : X.A.units + 65 < cLine) : OpR X (compareOp .NotIn) (RdO X.K nm fun h => op2 h .nin) := OpR.by fun x y H Q ⟨vw, h, d, e, r, sr, rx, ry, ev, k⟩ => by
  have ev : (inD h d e).map (fun b => D.bl !b) = some r := by cases d <;> exact ev
  obtain ⟨b, hb, rfl⟩ := Option.map_eq_some_iff.mp ev
  rcases in_data sr rx ry hb with ⟨c, z, h1, h2, h3⟩ | ⟨p, xs, h1, h2, h3, h4, h5⟩ | ⟨a, kvs, kk, h1, h2, h3, h4⟩ | ⟨dd, ds, h1, h2, h3, h4, h5⟩
  · refine ⟨_, op_notIn_sign, c, z, h1, h2, ?_⟩
    rw [← h3]
    exact k vw H _ Stp.rfl sr (.bl _)
  · exact ⟨_, op_notIn_seq, p, xs, h1, h2, h3, h4, by rw [← h5]; exact k vw H _ Stp.rfl sr (.bl _)⟩
  · exact ⟨_, op_dNin (by omega), a, kvs, kk, h1, h2, h3, by rw [← h4]; exact k vw H _ Stp.rfl sr (.bl _)⟩
  · exact ⟨_, op_ninT hu, dd, ds, h1, h2, h3, h4, by rw [← h5]; exact k vw H _ Stp.rfl sr (.bl _)⟩
theorem ops_cmp (hu : X.A.units + 65 < cLine) {o : Op} {b : CmpOp} (e : cmpOf o = some b) : OpR X (compareOp b) (RdO X.K nm fun h => op2 h o) := by
  cases o <;> simp only [cmpOf, reduceCtorEq, Option.some.injEq] at e <;> subst e
  · exact ops_lt
  · exact ops_le
  · exact ops_gt
  · exact ops_ge
  · exact ops_eq (by omega)
  · exact ops_ne (by omega)
  · exact ops_isn
  · exact ops_notn
  · exact ops_in hu
  · exact ops_nin hu
/-! ### built-ins -/
theorem ints_of {K : PySem.W.Frag} {vw : Vw} : ∀ {vs : List V} {ds : List D} {ns : List Int}, Reps K vw vs ds → intsOf ds = some ns → vs = ns.map V.int
  | _, _, _, .nil, e => by simp only [intsOf, Option.some.injEq] at e; subst e; rfl
  | _, _, _, .cons r t, e => by
    cases r <;> simp only [intsOf, reduceCtorEq] at e
    obtain ⟨ms, h1, h2⟩ := Option.map_eq_some_iff.mp e
    subst h2
    rw [ints_of t h1]; rfl
theorem bools_of {K : PySem.W.Frag} {vw : Vw} : ∀ {vs : List V} {ds : List D} {ns : List Bool}, Reps K vw vs ds → boolsOf ds = some ns → vs = ns.map V.bl
  | _, _, _, .nil, e => by simp only [boolsOf, Option.some.injEq] at e; subst e; rfl
  | _, _, _, .cons r t, e => by
    cases r <;> simp only [boolsOf, reduceCtorEq] at e
    obtain ⟨ms, h1, h2⟩ := Option.map_eq_some_iff.mp e
    subst h2
    rw [bools_of t h1]; rfl
theorem minI_spec : ∀ (r : List Int) (n : Int), (minI n r = n ∨ minI n r ∈ r) ∧ minI n r ≤ n ∧ ∀ y ∈ r, minI n r ≤ y
  | [], n => ⟨.inl rfl, Int.le_refl _, fun _ h => by cases h⟩
  | i :: r, n => by
    simp only [minI]
    by_cases h : i < n
    · rw [if_pos h]
      obtain ⟨a, b, c⟩ := minI_spec r i
      refine ⟨.inr ?_, by omega, fun y hy => ?_⟩
      · rcases a with a | a
        · rw [a]; exact List.mem_cons_self
        · exact List.mem_cons_of_mem _ a
      · rcases List.mem_cons.mp hy with e | e
        · subst e; exact b
        · exact c y e
    · rw [if_neg h]
      obtain ⟨a, b, c⟩ := minI_spec r n
      refine ⟨?_, b, fun y hy => ?_⟩
      · rcases a with a | a
        · exact .inl a
        · exact .inr (List.mem_cons_of_mem _ a)
      · rcases List.mem_cons.mp hy with e | e
        · subst e; omega
        · exact c y e
theorem maxI_spec : ∀ (r : List Int) (n : Int), (maxI n r = n ∨ maxI n r ∈ r) ∧ n ≤ maxI n r ∧ ∀ y ∈ r, y ≤ maxI n r
  | [], n => ⟨.inl rfl, Int.le_refl _, fun _ h => by cases h⟩
  | i :: r, n => by
    simp only [maxI]
    by_cases h : n < i
    · rw [if_pos h]
      obtain ⟨a, b, c⟩ := maxI_spec r i
      refine ⟨.inr ?_, by omega, fun y hy => ?_⟩
      · rcases a with a | a
        · rw [a]; exact List.mem_cons_self
        · exact List.mem_cons_of_mem _ a
      · rcases List.mem_cons.mp hy with e | e
        · subst e; exact b
        · exact c y e
    · rw [if_neg h]
      obtain ⟨a, b, c⟩ := maxI_spec r n
      refine ⟨?_, b, fun y hy => ?_⟩
      · rcases a with a | a
        · exact .inl a
        · exact .inr (List.mem_cons_of_mem _ a)
      · rcases List.mem_cons.mp hy with e | e
        · subst e; omega
        · exact c y e
theorem min_unique {ns : List Int} {n m : Int} {r : List Int} (e : ns = n :: r) (h1 : m ∈ ns) (h2 : ∀ y, y ∈ ns → m ≤ y) : m = minI n r := by
  subst e
  obtain ⟨a, b, c⟩ := minI_spec r n
  have h3 : minI n r ∈ n :: r := by
    rcases a with a | a
    · rw [a]; exact List.mem_cons_self
    · exact List.mem_cons_of_mem _ a
  have h4 := h2 _ h3
  rcases List.mem_cons.mp h1 with e | e
  · subst e; omega
  · have := c m e; omega
theorem max_unique {ns : List Int} {n m : Int} {r : List Int} (e : ns = n :: r) (h1 : m ∈ ns) (h2 : ∀ y, y ∈ ns → y ≤ m) : m = maxI n r := by
  subst e
  obtain ⟨a, b, c⟩ := maxI_spec r n
  have h3 : maxI n r ∈ n :: r := by
    rcases a with a | a
    · rw [a]; exact List.mem_cons_self
    · exact List.mem_cons_of_mem _ a
  have h4 := h2 _ h3
  rcases List.mem_cons.mp h1 with e | e
  · subst e; omega
  · have := c m e; omega
/-- a built-in's name and value -/
def biVal : Bi → Value
  | .len => .builtin "len" | .abs => .builtin "abs" | .int => .type "int" | .all => .builtin "all" | .any => .builtin "any" | .min => .builtin "min" | .max => .builtin "max"
  | .tuple => .type "tuple" | .list => .type "list" | .sum => .builtin "sum" | .dict => .type "dict" | .str => .type "str"
theorem reps1 {K : PySem.W.Frag} {vw : Vw} {xs : List V} {d : D} (r : Reps K vw xs [d]) : ∃ x, xs = [x] ∧ Rep K vw x d := by
  cases r with
  | cons h t => cases t; exact ⟨_, rfl, h⟩
theorem reps2 {K : PySem.W.Frag} {vw : Vw} {xs : List V} {d e : D} (r : Reps K vw xs [d, e]) : ∃ x y, xs = [x, y] ∧ Rep K vw x d ∧ Rep K vw y e := by
  cases r with
  | cons h t => cases t with
    | cons h2 t => cases t; exact ⟨_, _, rfl, h, h2⟩
/-- what a unary built-in must show -/
def One (X : Cx) (nm : Nm) (f : Value) (b : Bi) : Prop := ∀ (x : V) (d : D) (H : Hp) (Q : VK) (vw : Vw) (h : Hh) (r : D), SR X.K nm vw H h → Rep X.K vw x d → bi1 h b d = some r →
  (∀ vw' H' v, Stp vw H vw' H' → SR X.K nm vw' H' h → Rep X.K vw' v r → Q v H') → ∃ r', CallR X f r' ∧ r' [x] H Q
def Two (X : Cx) (nm : Nm) (f : Value) (b : Bi) : Prop := ∀ (x y : V) (d e : D) (H : Hp) (Q : VK) (vw : Vw) (h : Hh) (r : D), SR X.K nm vw H h → Rep X.K vw x d → Rep X.K vw y e → bi2 b d e = some r →
  (∀ vw' H' v, Stp vw H vw' H' → SR X.K nm vw' H' h → Rep X.K vw' v r → Q v H') → ∃ r', CallR X f r' ∧ r' [x, y] H Q
theorem bi_mk {f : Value} {b : Bi} (h1 : One X nm f b) (h2 : Two X nm f b) : CallR X f (RdB X.K nm fun h ds => biF h b ds) := CallR.by fun xs H Q ⟨vw, h, ds, r, sr, rx, ev, k⟩ => by
  match ds, rx, ev with
  | [d], rx, ev =>
    obtain ⟨x, e, rx'⟩ := reps1 rx
    rw [e]
    exact h1 x d H Q vw h r sr rx' ev k
  | [d, e], rx, ev =>
    obtain ⟨x, y, e, rx', ry⟩ := reps2 rx
    rw [e]
    exact h2 x y _ _ H Q vw h r sr rx' ry ev k
  | [], rx, ev => cases ev
  | _ :: _ :: _ :: _, rx, ev => cases ev
theorem two_none {f : Value} {b : Bi} (h1 : b ≠ .min) (h2 : b ≠ .max) : Two X nm f b := fun x y d e H Q vw h r sr rx ry ev k => by
  exfalso
  cases b <;> first | exact absurd rfl h1 | exact absurd rfl h2 | cases ev
theorem bis_len : One X nm (.builtin "len") .len := fun x d H Q vw h r sr rx ev k => by
  have other : (match lstOf h d with
      | some xs => some (D.int xs.length)
      | none => match dctOf h d with
        | some (ks, vs) => if ks.all isKey then some (.int ks.length) else none
        | none => none) = some r → ∃ r', CallR X (.builtin "len") r' ∧ r' [x] H Q := fun ev => by
      cases e1 : lstOf h d with
      | some ys =>
        rw [e1] at ev
        obtain ⟨a, vs, ea, hs, rr⟩ := lst_of sr rx e1
        have ev := Option.some.inj ev
        subst ev
        exact ⟨_, call_len, x, _, rfl, by rw [ea]; exact .inl ⟨_, hs, rfl⟩, by rw [rr.length]; exact k vw H _ Stp.rfl sr (.int _)⟩
      | none =>
        rw [e1] at ev
        cases e2 : dctOf h d with
        | none => rw [e2] at ev; cases ev
        | some p =>
          obtain ⟨ks, vs⟩ := p
          rw [e2] at ev
          simp only [Option.ite_none_right_eq_some, Option.some.injEq] at ev
          obtain ⟨a, kvs, ea, hs, ek, rr⟩ := dct_of sr rx e2
          rw [← ev.2, ek, List.length_map] at k
          exact ⟨_, call_lenD, a, kvs, by rw [ea], hs, k vw H _ Stp.rfl sr (.int _)⟩
  cases rx with
  | str s =>
    simp only [bi1, Option.ite_none_right_eq_some, Option.some.injEq] at ev
    refine ⟨_, call_len, _, _, rfl, ⟨by rw [toS_len]; exact lim_le ev.1, rfl⟩, ?_⟩
    rw [toS_len]
    rw [← ev.2] at k
    exact k vw H _ Stp.rfl sr (.int _)
  | tup ht hr =>
    simp only [bi1, Option.some.injEq] at ev
    rw [← ev] at k
    exact ⟨_, call_len, _, _, rfl, .inr ⟨_, sr.ex.sqT ht, rfl⟩, by rw [hr.length]; exact k vw H _ Stp.rfl sr (.int _)⟩
  | _ => exact other ev
theorem bis_abs : One X nm (.builtin "abs") .abs := fun x d H Q vw h r sr rx ev k => by
  cases rx <;> simp only [bi1, reduceCtorEq, Option.some.injEq] at ev
  subst ev
  exact ⟨_, call_abs, _, rfl, k vw H _ Stp.rfl sr (.int _)⟩
theorem isDig_ok {c : Nat} (h : isDig c = true) : 48 ≤ c ∧ c ≤ 57 := by
  unfold isDig at h
  simpa using h
theorem digV_eq (cs : List Nat) : ∀ a : Nat, digV a cs = cs.foldl (fun acc c => acc * 10 + (c - 48)) a := by
  induction cs with
  | nil => intro a; rfl
  | cons c cs ih =>
    intro a
    rw [List.foldl_cons, ← ih]
    rfl
theorem int_dig {s : List Nat} (h : s.all isDig = true) (h1 : 0 < s.length) (h2 : s.length ≤ 640) : PySem.intText? (toS s) = some ((digV 0 s : Nat) : Int) := by
  have hd : PySem.NumText.AllDigits (toS s).cps.toList := fun c hc => isDig_ok (List.all_eq_true.mp h c (by rwa [toS_cps] at hc))
  rw [PySem.intText_digits hd (by rw [toS_cps]; intro e; rw [e] at h1; simp at h1) (by rw [toS_len]; omega), toS_cps, digV_eq]
  rfl
theorem bis_int : One X nm (.type "int") .int := fun x d H Q vw h r sr rx ev k => by
  cases rx <;> simp only [bi1, reduceCtorEq, Option.some.injEq] at ev
  · subst ev
    exact ⟨_, call_int1, .inr ⟨_, rfl, k vw H _ Stp.rfl sr (.int _)⟩⟩
  · subst ev
    exact ⟨_, call_int1, .inl ⟨_, rfl, k vw H _ Stp.rfl sr (.int _)⟩⟩
  · rename_i s
    simp only [Option.ite_none_right_eq_some, Option.some.injEq, Bool.and_eq_true, decide_eq_true_eq] at ev
    obtain ⟨⟨⟨h1, h2⟩, h3⟩, rfl⟩ := ev
    exact ⟨_, call_int_str, _, _, rfl, int_dig h2 h3 h1, by rw [toS_len]; exact h1, k vw H _ Stp.rfl sr (.int _)⟩
theorem bis_all (hc : X.calm = true) : One X nm (.builtin "all") .all := fun x d H Q vw h r sr rx ev k => by
  have ev : ((lstOf h d).bind fun xs => (boolsOf xs).map fun bs => D.bl (bs.all id)) = some r := by cases d <;> exact ev
  obtain ⟨ys, e1, ev⟩ := Option.bind_eq_some_iff.mp ev
  obtain ⟨bs, e2, er⟩ := Option.map_eq_some_iff.mp ev
  subst er
  obtain ⟨a, vs, ea, hs, rr⟩ := lst_of sr rx e1
  rw [bools_of rr e2] at hs
  exact ⟨_, cr_all hc, a, bs, by rw [ea], hs, k vw H _ Stp.rfl sr (.bl _)⟩
theorem bis_any (hc : X.calm = true) : One X nm (.builtin "any") .any := fun x d H Q vw h r sr rx ev k => by
  have ev : ((lstOf h d).bind fun xs => (boolsOf xs).map fun bs => D.bl (bs.any id)) = some r := by cases d <;> exact ev
  obtain ⟨ys, e1, ev⟩ := Option.bind_eq_some_iff.mp ev
  obtain ⟨bs, e2, er⟩ := Option.map_eq_some_iff.mp ev
  subst er
  obtain ⟨a, vs, ea, hs, rr⟩ := lst_of sr rx e1
  rw [bools_of rr e2] at hs
  exact ⟨_, cr_any hc, a, bs, by rw [ea], hs, k vw H _ Stp.rfl sr (.bl _)⟩
theorem bis_sum (hc : X.calm = true) : One X nm (.builtin "sum") .sum := fun x d H Q vw h r sr rx ev k => by
  have ev : ((lstOf h d).bind fun xs => (intsOf xs).map fun ns => D.int ns.sum) = some r := by cases d <;> exact ev
  obtain ⟨ys, e1, ev⟩ := Option.bind_eq_some_iff.mp ev
  obtain ⟨bs, e2, er⟩ := Option.map_eq_some_iff.mp ev
  subst er
  obtain ⟨a, vs, ea, hs, rr⟩ := lst_of sr rx e1
  rw [ints_of rr e2] at hs
  exact ⟨_, cr_sum hc, a, bs, by rw [ea], hs, k vw H _ Stp.rfl sr (.int _)⟩
theorem bis_min1 (hc : X.calm = true) : One X nm (.builtin "min") .min := fun x d H Q vw h r sr rx ev k => by
  have ev : ((lstOf h d).bind fun xs => (intsOf xs).bind fun ns => match ns with
      | [] => none
      | n :: r => some (D.int (minI n r))) = some r := by cases d <;> exact ev
  obtain ⟨ys, e1, ev⟩ := Option.bind_eq_some_iff.mp ev
  obtain ⟨ns, e2, ev⟩ := Option.bind_eq_some_iff.mp ev
  obtain ⟨a, vs, ea, hs, rr⟩ := lst_of sr rx e1
  rw [ints_of rr e2] at hs
  cases ns with
  | nil => cases ev
  | cons n ns =>
    have ev := Option.some.inj ev
    subst ev
    exact ⟨_, cr_min hc, a, _, by rw [ea], hs, by simp, fun m h1 h2 => by rw [min_unique rfl h1 h2]; exact k vw H _ Stp.rfl sr (.int _)⟩
theorem bis_min2 (hc : X.calm = true) : Two X nm (.builtin "min") .min := fun x y d e H Q vw h r sr rx ry ev k => by
  cases rx <;> cases ry <;> simp only [bi2, reduceCtorEq, Option.some.injEq] at ev
  subst ev
  exact ⟨_, call_min2 hc, _, _, rfl, k vw H _ Stp.rfl sr (.int _)⟩
theorem bis_max1 (hc : X.calm = true) : One X nm (.builtin "max") .max := fun x d H Q vw h r sr rx ev k => by
  have ev : ((lstOf h d).bind fun xs => (intsOf xs).bind fun ns => match ns with
      | [] => none
      | n :: r => some (D.int (maxI n r))) = some r := by cases d <;> exact ev
  obtain ⟨ys, e1, ev⟩ := Option.bind_eq_some_iff.mp ev
  obtain ⟨ns, e2, ev⟩ := Option.bind_eq_some_iff.mp ev
  obtain ⟨a, vs, ea, hs, rr⟩ := lst_of sr rx e1
  rw [ints_of rr e2] at hs
  cases ns with
  | nil => cases ev
  | cons n ns =>
    have ev := Option.some.inj ev
    subst ev
    exact ⟨_, cr_max hc, a, _, by rw [ea], hs, by simp, fun m h1 h2 => by rw [max_unique rfl h1 h2]; exact k vw H _ Stp.rfl sr (.int _)⟩
theorem bis_max2 (hc : X.calm = true) : Two X nm (.builtin "max") .max := fun x y d e H Q vw h r sr rx ry ev k => by
  cases rx <;> cases ry <;> simp only [bi2, reduceCtorEq, Option.some.injEq] at ev
  subst ev
  exact ⟨_, call_max2 hc, _, _, rfl, k vw H _ Stp.rfl sr (.int _)⟩
theorem bis_tuple : One X nm (.type "tuple") .tuple := fun x d H Q vw h r sr rx ev k => by
  have other : (lstOf h d).map D.tup = some r → ∃ r', CallR X (.type "tuple") r' ∧ r' [x] H Q := fun ev => by
    obtain ⟨ys, e1, er⟩ := Option.map_eq_some_iff.mp ev
    subst er
    obtain ⟨a, vs, ea, hs, rr⟩ := lst_of sr rx e1
    refine ⟨_, call_tuple_of, a, vs, by rw [ea], .inl ⟨hs, fun l hl => ?_⟩⟩
    have st := sr.stF (.tup vs) hl
    have le := st.le
    exact k _ _ _ st (sr.newF hl) (.tup (SqT.of upd_same) (rr.mono le))
  cases rx with
  | tup ht hr =>
    have ev := Option.some.inj ev
    subst ev
    exact ⟨_, call_tuple_of, _, _, rfl, .inr ⟨sr.ex.sqT ht, k vw H _ Stp.rfl sr (.tup ht hr)⟩⟩
  | _ => exact other ev
theorem bis_list : One X nm (.type "list") .list := fun x d H Q vw h r sr rx ev k => by
  have other : (lstOf h d).map D.lst = some r → ∃ r', CallR X (.type "list") r' ∧ r' [x] H Q := fun ev => by
    obtain ⟨ys, e1, er⟩ := Option.map_eq_some_iff.mp ev
    subst er
    obtain ⟨a, vs, ea, hs, rr⟩ := lst_of sr rx e1
    refine ⟨_, call_list_of, a, vs, by rw [ea], .inl hs, fun l hl => ?_⟩
    have st := sr.stF (.lst vs) hl
    have le := st.le
    exact k _ _ _ st (sr.newF hl) (.lst upd_same (rr.mono le))
  cases rx with
  | tup ht hr =>
    rename_i a vs ds
    have ev := Option.some.inj ev
    subst ev
    refine ⟨_, call_list_of, a, vs, rfl, .inr (sr.ex.sqT ht), fun l hl => ?_⟩
    have st := sr.stF (.lst vs) hl
    have le := st.le
    exact k _ _ _ st (sr.newF hl) (.lst upd_same (hr.mono le))
  | _ => exact other ev
theorem digs_ok (n : Nat) : (Str.ofString (toString (n : Int))) = toS ((Nat.toDigits 10 n).map Char.toNat) := by
  rw [Str.ofString_eq_toList]
  show (⟨((Nat.repr n).toList.map Char.toNat).toArray⟩ : Str) = _
  unfold Nat.repr toS
  rw [String.toList_ofList]
theorem bis_str : One X nm (.type "str") .str := fun x d H Q vw h r sr rx ev k => by
  cases rx <;> simp only [bi1, reduceCtorEq, Option.some.injEq] at ev
  rename_i i
  simp only [Option.ite_none_right_eq_some, Option.some.injEq] at ev
  obtain ⟨⟨h1, h2⟩, rfl⟩ := ev
  obtain ⟨n, rfl⟩ := Int.eq_ofNat_of_zero_le h1
  refine ⟨_, call_str_int, _, rfl, ?_, ?_⟩
  · by_cases hz : (n : Int).natAbs = 0
    · rw [hz]; decide
    · exact (Nat.log2_lt hz).mpr (Nat.lt_of_lt_of_le (show (n : Int).natAbs < 2 ^ 30 by omega) (Nat.pow_le_pow_right (by decide) (by decide)))
  · show Q (.str (Str.ofString (toString (n : Int)))) H
    rw [digs_ok]
    exact k vw H _ Stp.rfl sr (.str _)
theorem bis (hc : X.calm = true) (b : Bi) (hb : b ≠ .dict) : CallR X (biVal b) (RdB X.K nm fun h ds => biF h b ds) := by
  cases b
  · exact bi_mk bis_len (two_none (by decide) (by decide))
  · exact bi_mk bis_abs (two_none (by decide) (by decide))
  · exact bi_mk bis_int (two_none (by decide) (by decide))
  · exact bi_mk (bis_all hc) (two_none (by decide) (by decide))
  · exact bi_mk (bis_any hc) (two_none (by decide) (by decide))
  · exact bi_mk (bis_min1 hc) (bis_min2 hc)
  · exact bi_mk (bis_max1 hc) (bis_max2 hc)
  · exact bi_mk bis_tuple (two_none (by decide) (by decide))
  · exact bi_mk bis_list (two_none (by decide) (by decide))
  · exact bi_mk (bis_sum hc) (two_none (by decide) (by decide))
  · exact absurd rfl hb
  · exact bi_mk bis_str (two_none (by decide) (by decide))
/-! ### subscripts -/
theorem atI_of {K : PySem.W.Frag} {vw : Vw} {vs : List V} {ds : List D} {i : Int} {d : D} (r : Reps K vw vs ds) (e : atD ds i = some d) : ∃ v, atI vs i = some v ∧ Rep K vw v d := by
  unfold atD at e
  have hl := r.length
  split at e
  · rename_i h0
    obtain ⟨v, h1, h2⟩ := r.at e
    have hlt : i.toNat < vs.length := (List.getElem?_eq_some_iff.mp h1).1
    refine ⟨v, ?_, h2⟩
    unfold atI ixN
    rw [if_pos h0, if_pos (by omega)]
    exact h1
  · split at e
    · rename_i h0 h1
      obtain ⟨v, h2, h3⟩ := r.at e
      refine ⟨v, ?_, h3⟩
      unfold atI ixN
      rw [if_neg h0, if_pos (by omega)]
      show vs[(i + (vs.length : Int)).toNat]? = some v
      rw [hl, Int.add_comm]
      exact h2
    · cases e
theorem ix_dict (hu : X.A.units + 64 < cLine) : IxR X (fun x y H Q => ∃ a kvs k v, x = .ref a ∧ H a = some (.dK kvs) ∧ y = kV k ∧ valV kvs k = some v ∧ Q v H) := by
  intro value slice pins s σ H x y v u Q I rx ry ⟨a, kvs, k, z, e1, e2, e3, e4, q⟩ hs
  subst e1 e3
  cases (show v = Value.ref a from rx)
  have g : DGet H a (kV k) (some z) := by rw [← e4]; exact DGet.k e2
  have hT := dict_typeIs I g
  unfold subscriptTail
  refine wpAny_bind ?_
  rw [getitemInPython_of_ne hT.not_modules]
  refine wpAny_bind (wpAny_specialOf hT PySem.F.slot_dict_getitem.lookup ?_)
  have fin : wpAny (model X.prog X.w) X.A (subscripted slice false (.ref a) u) (fun r s₃ => wpAny (model X.prog X.w) X.A (letTemporaryGo value (.ref a) r >>= fun _ => pure r) (EP X pins σ Q) X.xe s₃) X.xe s := by
    rw [hs]
    exact wpAny_operating (d_getItem (by omega) I g ry fun w' s3 I3 rw' => wpAny_bind (wpAny_letTemporaryGo (wpAny_pure ⟨z, H, I3, rw', q⟩)))
  first
    | exact wpAny_pure (wpAny_bind fin)
    | exact wpAny_bind (wpAny_pure (wpAny_bind fin))
    | exact wpAny_bind fin
theorem IxR.by {t : R2} (h : ∀ x y H Q, t x y H Q → ∃ r, IxR X r ∧ r x y H Q) : IxR X t := by
  intro value slice pins s σ H x y v u Q I rx ry q hs
  obtain ⟨r, hr, q⟩ := h x y H Q q
  exact hr value slice pins s σ H x y v u Q I rx ry q hs
theorem ixs (hu : X.A.units + 64 < cLine) : IxR X (RdO X.K nm fun h x y => idxF h x y) := IxR.by fun x y H Q ⟨vw, h, d, e, r, sr, rx, ry, ev, k⟩ => by
  have other : idxO h d e = some r → ∃ r', IxR X r' ∧ r' x y H Q := fun ev => by
    unfold idxO at ev
    cases e1 : lstOf h d with
    | some ys =>
      rw [e1] at ev
      obtain ⟨a, vs, ea, hs, rr⟩ := lst_of sr rx e1
      cases ry <;> simp only [idxL, reduceCtorEq] at ev
      obtain ⟨v, h1, h2⟩ := atI_of rr ev
      exact ⟨_, ix_list, a, vs, _, v, ea, rfl, hs, h1, k vw H _ Stp.rfl sr h2⟩
    | none =>
      rw [e1] at ev
      cases e2 : dctOf h d with
      | none => rw [e2] at ev; cases ev
      | some p =>
        obtain ⟨ks, vs⟩ := p
        rw [e2] at ev
        simp only [Option.ite_none_right_eq_some, Bool.and_eq_true] at ev
        obtain ⟨⟨f1, f2⟩, ev⟩ := ev
        obtain ⟨a, kvs, ea, hs, ek, rr⟩ := dct_of sr rx e2
        obtain ⟨kk, hy, he⟩ := key_of' ry f1
        subst ek
        rw [he] at ev
        obtain ⟨v, h1, h2⟩ := (keyAt_of kk rr).1 r ev
        exact ⟨_, ix_dict hu, a, kvs, kk, v, ea, hs, hy, h1, k vw H _ Stp.rfl sr h2⟩
  cases rx with
  | tup ht hr =>
    cases ry <;> simp only [idxF, idxL, reduceCtorEq] at ev
    obtain ⟨v, h1, h2⟩ := atI_of hr ev
    exact ⟨_, ix_tup, _, _, _, v, rfl, rfl, sr.ex.sqT ht, h1, k vw H _ Stp.rfl sr h2⟩
  | str s =>
    cases ry <;> simp only [idxF, reduceCtorEq, Option.ite_none_right_eq_some] at ev
    obtain ⟨⟨h0, hl⟩, ev⟩ := ev
    obtain ⟨c, h1, er⟩ := Option.map_eq_some_iff.mp ev
    subst er
    rename_i i _
    refine ⟨_, ix_str, toS s, i, c, rfl, rfl, by rw [toS_len]; exact lim_le hl, ?_, k vw H _ Stp.rfl sr (.str [c])⟩
    rw [toS_cps]
    have hlt := (List.getElem?_eq_some_iff.mp h1).1
    unfold atI ixN
    rw [if_pos h0, if_pos (by omega)]
    exact h1
  | _ => exact other ev
/-! ### slices -/
theorem SlR.by {t : V → Option Int → Option Int → Hp → VK → Prop} (h : ∀ x lo hi H Q, t x lo hi H Q → ∃ r, SlR X r ∧ r x lo hi H Q) : SlR X t := by
  intro pins s σ H x v vl vu lo hi sl Q I rx hs pl pu q
  obtain ⟨r, hr, q⟩ := h x lo hi H Q q
  exact hr pins s σ H x v vl vu lo hi sl Q I rx hs pl pu q
def RdL (K : PySem.W.Frag) (nm : Nm) : V → Option Int → Option Int → Hp → VK → Prop := fun x lo hi H Q => ∃ vw h d r, SR K nm vw H h ∧ Rep K vw x d ∧ slF h d lo hi = some r ∧
  ∀ vw' H' v, Stp vw H vw' H' → SR K nm vw' H' h → Rep K vw' v r → Q v H'
theorem cutI_lo (n : Nat) (o : Option Int) : (o.map (cutI n)).getD 0 = HT.sIx n 0 o := by
  cases o with
  | none => rfl
  | some i =>
    show cutI n i = _
    unfold cutI HT.sIx
    rw [Int.add_comm]
theorem cutI_hi (n : Nat) (o : Option Int) : (o.map (cutI n)).getD n = HT.sIx n n o := by
  cases o with
  | none => rfl
  | some i =>
    show cutI n i = _
    unfold cutI HT.sIx
    rw [Int.add_comm]
theorem cut_reps {K : PySem.W.Frag} {vw : Vw} {vs : List V} {ds : List D} (r : Reps K vw vs ds) (lo hi : Option Int) : Reps K vw (cutV vs lo hi) (cutL ds ((lo.map (cutI ds.length)).getD 0) ((hi.map (cutI ds.length)).getD ds.length)) := by
  unfold cutV cutL
  rw [cutI_lo, cutI_hi, r.length]
  exact (r.drop _).take _
theorem cut_whole {K : PySem.W.Frag} {vw : Vw} {vs : List V} {ds : List D} (r : Reps K vw vs ds) (lo hi : Option Int) (e : HT.sIx vs.length 0 lo = 0 ∧ HT.sIx vs.length vs.length hi = vs.length) : cutL ds ((lo.map (cutI ds.length)).getD 0) ((hi.map (cutI ds.length)).getD ds.length) = ds := by
  unfold cutL
  rw [cutI_lo, cutI_hi, ← r.length, e.1, e.2, r.length]
  simp
theorem sls : SlR X (RdL X.K nm) := SlR.by fun x lo hi H Q ⟨vw, h, d, r, sr, rx, ev, k⟩ => by
  have other : (lstOf h d).map (fun xs => D.lst (cutL xs ((lo.map (cutI xs.length)).getD 0) ((hi.map (cutI xs.length)).getD xs.length))) = some r → ∃ r', SlR X r' ∧ r' x lo hi H Q := fun ev => by
    obtain ⟨ys, e1, er⟩ := Option.map_eq_some_iff.mp ev
    subst er
    obtain ⟨a, vs, ea, hs, rr⟩ := lst_of sr rx e1
    refine ⟨_, sl_list, a, vs, ea, hs, fun p hp => ?_⟩
    have st := sr.stF (.lst (cutV vs lo hi)) hp
    have le := st.le
    exact k _ _ _ st (sr.newF hp) (.lst upd_same (cut_reps (rr.mono le) lo hi))
  cases rx with
  | tup ht hr =>
    rename_i a vs ds _
    have ev := Option.some.inj ev
    subst ev
    refine ⟨_, sl_tupA, a, vs, rfl, sr.ex.sqT ht, fun e => ?_, fun _ p hp => ?_⟩
    · rw [cut_whole hr lo hi e] at k
      exact k vw H _ Stp.rfl sr (.tup ht hr)
    · have st := sr.stF (.tup (cutV vs lo hi)) hp
      have le := st.le
      exact k _ _ _ st (sr.newF hp) (.tup (SqT.of upd_same) (cut_reps (hr.mono le) lo hi))
  | str s =>
    simp only [slF, Option.ite_none_right_eq_some, Option.some.injEq] at ev
    obtain ⟨hl, ev⟩ := ev
    subst ev
    refine ⟨_, sl_str, toS s, rfl, by rw [toS_len]; exact lim_le hl, ?_⟩
    have e : cutS (toS s) lo hi = toS (cutL s ((lo.map (cutI s.length)).getD 0) ((hi.map (cutI s.length)).getD s.length)) := by
      unfold cutS cutL
      rw [cutI_lo, cutI_hi, toS_cps, toS_len]
      rfl
    rw [e]
    exact k vw H _ Stp.rfl sr (.str _)
  | _ => exact other ev
/-! ### isinstance -/
def tyName : Ty → String
  | .int => "int" | .bool => "bool" | .str => "str" | .tuple => "tuple" | .list => "list" | .dict => "dict" | .none => "NoneType" | .cls _ => "object"
theorem kit_tab : ∀ (a b : Ty), (∀ c, a ≠ .cls c) → (∀ c, b ≠ .cls c) → b ≠ .none → kitB (tyName a) (tyName b) = some (decide (b = a) || (decide (a = .bool) && decide (b = .int))) := by
  intro a b h1 h2 h3
  cases a <;> first | exact absurd rfl (h1 _) | skip
  all_goals cases b <;> first | exact absurd rfl (h2 _) | exact absurd rfl h3 | decide +kernel
def tyOf (h : Hh) : D → Option Ty
  | .non => some .none
  | .bl _ => some .bool
  | .int _ => some .int
  | .str _ => some .str
  | .tup _ => some .tuple
  | .lst _ => some .list
  | .scr _ => some .list
  | .dct _ _ => some .dict
  | .ref l => (match h[l]? with
    | some (.lst _) => some .list
    | some (.dct _ _) => some .dict
    | _ => none)
theorem tyx_sqT {K : PySem.W.Frag} {H : Hp} {a : Addr} {xs : List V} (h : SqT K H a xs) : TyX K H (.ref a) (.type "tuple") := by
  rcases h with (h | ⟨o, h⟩) | ⟨o, its, n, h1, h2, _⟩
  · exact .base (.tup h)
  · exact .fTuple h
  · exact .kTuple h1 h2
theorem tyx_sqL {K : PySem.W.Frag} {H : Hp} {a : Addr} {xs : List V} (h : SqL K H a xs) : TyX K H (.ref a) (.type "list") := by
  rcases h with (h | ⟨o, h⟩) | ⟨o, its, n, h1, h2, _⟩
  · exact .base (.lst h)
  · exact .base (.frz h)
  · exact .kList h1 h2
theorem tyx_of {K : PySem.W.Frag} {vw : Vw} {H : Hp} {h : Hh} {v : V} {d : D} {t : Ty} (sr : SR K nm vw H h) (r : Rep K vw v d) (e : tyOf h d = some t) : TyX K H v (.type (tyName t)) ∧ ∀ c, t ≠ .cls c := by
  cases r with
  | non => cases e; exact ⟨.base .non, fun c q => by cases q⟩
  | bl b => cases e; exact ⟨.base (.bl b), fun c q => by cases q⟩
  | int b => cases e; exact ⟨.base (.int b), fun c q => by cases q⟩
  | str b => cases e; exact ⟨.base (.str _), fun c q => by cases q⟩
  | tup h1 h2 => cases e; exact ⟨tyx_sqT (sr.ex.sqT h1), fun c q => by cases q⟩
  | lst h1 h2 => cases e; exact ⟨.base (.lst (sr.ex _ _ h1)), fun c q => by cases q⟩
  | scr h1 h2 => cases e; exact ⟨tyx_sqL (sr.ex.sqL h1), fun c q => by cases q⟩
  | dct h1 h2 => cases e; exact ⟨.base (.dK (sr.ex _ _ h1)), fun c q => by cases q⟩
  | ref hl =>
    obtain ⟨o, ho, rr⟩ := sr.cellAt hl
    simp only [tyOf] at e
    rw [ho] at e
    cases o with
    | lst ys => cases e; obtain ⟨vs, h1, _⟩ := rr; exact ⟨.base (.lst h1), fun c q => by cases q⟩
    | dct ys zs => cases e; obtain ⟨vs, h1, _⟩ := rr; exact ⟨.base (.dK h1), fun c q => by cases q⟩
    | ins c fs => cases e
theorem isiF_ty {h : Hh} {d : D} {t : Ty} {b : Bool} (e : isiF h t d = some b) : ∃ u, tyOf h d = some u ∧ b = (decide (t = u) || (decide (u = .bool) && decide (t = .int))) := by
  cases d <;> simp only [isiF, Option.some.injEq] at e
  · exact ⟨_, rfl, by rw [← e]; cases t <;> rfl⟩
  · exact ⟨_, rfl, by rw [← e]; cases t <;> rfl⟩
  · exact ⟨_, rfl, by rw [← e]; cases t <;> rfl⟩
  · exact ⟨_, rfl, by rw [← e]; cases t <;> rfl⟩
  · exact ⟨_, rfl, by rw [← e]; cases t <;> rfl⟩
  · exact ⟨_, rfl, by rw [← e]; cases t <;> rfl⟩
  · exact ⟨_, rfl, by rw [← e]; cases t <;> rfl⟩
  · rename_i l
    cases hl : h[l]? with
    | none => rw [hl] at e; cases e
    | some o =>
      rw [hl] at e
      cases o with
      | lst _ => exact ⟨_, by rw [tyOf, hl], by rw [← Option.some.inj e]; cases t <;> rfl⟩
      | dct _ _ => exact ⟨_, by rw [tyOf, hl], by rw [← Option.some.inj e]; cases t <;> rfl⟩
      | ins _ _ => cases e
  · exact ⟨_, rfl, by rw [← e]; cases t <;> rfl⟩
end
end VI

/-! VI, part E: what the syntax must be like. -/
namespace VI
open PySem L2 PyProof.Rows
def nst : Expr → Bool
  | .Starred .. => false
  | _ => true
def nsl : Expr → Bool
  | .Slice .. => false
  | _ => true
def nset : Expr → Bool
  | .Set .. => false
  | _ => true
def nsup : Expr → Bool
  | .Call (.Name _ _) [] [] _ => false
  | _ => true
def ncomp : Expr → Bool
  | .ListComp .. => false
  | .SetComp .. => false
  | .DictComp .. => false
  | _ => true
def nif : Expr → Bool
  | .IfExp .. => false
  | _ => true
def ntup : Expr → Bool
  | .Tuple .. => false
  | _ => true
/-- a test that is plainly its value's truth -/
def plainT : Expr → Bool
  | .UnaryOp .Not _ _ => false
  | .BoolOp .. => false
  | .IfExp .. => false
  | .Compare .. => false
  | _ => true
theorem star_cons {e : Expr} (h : nst e = true) (es : List Expr) (env : Env) : starEach (e :: es) env = (false, eval e env) :: starEach es env := by
  cases e <;> first | rfl | (simp [nst] at h)
theorem star_any : ∀ {es : List Expr} (h : es.all nst = true) (pos : Pos) (env : Env), (backTo pos (starEach es env)).any (·.1) = false
  | [], _, _, _ => rfl
  | e :: es, h, pos, env => by
    rw [List.all_cons, Bool.and_eq_true] at h
    rw [star_cons h.1]
    show (false || (backTo pos (starEach es env)).any (·.1)) = false
    rw [star_any h.2]
    rfl
theorem star_all : ∀ {es : List Expr} (h : es.all nst = true) (pos : Pos) (env : Env), (backTo pos (starEach es env)).all (fun x => !x.1) = true
  | [], _, _, _ => rfl
  | e :: es, h, pos, env => by
    rw [List.all_cons, Bool.and_eq_true] at h
    rw [star_cons h.1]
    show (true && (backTo pos (starEach es env)).all (fun x => !x.1)) = true
    rw [star_all h.2]
    rfl
theorem base_plain {e : Expr} (h : nsup e = true) (f : Str) (env : Env) : attributeBase e f env (eval e env) = eval e env := by
  unfold attributeBase
  split
  · simp [nsup] at h
  · rfl
theorem marks_plain {b : Expr} (h : nset b = true) (op : CmpOp) : behindInMarks op b = false := by
  cases b <;> first | rfl | (simp [nset] at h)
theorem last_plain {b c : Expr} (h : nset c = true) (op op' : CmpOp) : lastMarks [op, op'] [b, c] = false := marks_plain h op'
theorem ix_plain {b : Expr} (h : nsl b = true) : PlainIx b := fun o i => by
  cases b <;> first | rfl | (simp [nsl] at h)
theorem fold_plain {e : Expr} (h : nset e = true) (env : Env) : ∀ x, foldedSetIterable e env x = pure x := fun x => by
  cases e <;> first | rfl | (simp [nset] at h)
theorem swaps_plain {e : Expr} (h : ncomp e = true) (t : Option Expr) (l : Nat) (env : Env) : swapsWith e t l env = pure false := by
  cases e <;> first | rfl | (simp [ncomp] at h)
theorem test_plain {e : Expr} (h : plainT e = true) (env : Env) : ∀ whole, isTrue e env whole = (do let v ← whole; standAt e.pos; holding [v] (truthy v)) := fun whole => by
  cases e with
  | UnaryOp op x p => cases op <;> first | rfl | (simp [plainT] at h)
  | BoolOp => simp [plainT] at h
  | IfExp => simp [plainT] at h
  | Compare => simp [plainT] at h
  | _ => rfl
theorem swapped_plain {e t : Expr} (h : ntup e = true) (env : Env) : swappedStores [t] e env = pure none := by
  cases e <;> first | (simp [ntup] at h; done) | skip
  all_goals (cases t <;> rfl)
theorem swapped_name {e : Expr} (x : Str) (p : Pos) (env : Env) : swappedStores [.Name x p] e env = pure none := by
  cases e <;> rfl
theorem sole_eq (t e : Expr) (l : Nat) (env : Env) : swapsWithSole [t] e l env = swapsWith e (some t) l env := rfl
theorem each_one {t : Expr} (h : nst t = true) (env : Env) : (assignEach [t] env).map (·.2) = [assign t env] := by
  cases t <;> first | rfl | (simp [nst] at h)
theorem each_cons {t : Expr} (h : nst t = true) (es : List Expr) (env : Env) : assignEach (t :: es) env = (false, assign t env) :: assignEach es env := by
  cases t <;> first | rfl | (simp [nst] at h)
theorem each_len : ∀ {es : List Expr} (env : Env), (assignEach es env).length = es.length
  | [], _ => rfl
  | e :: es, env => by
    cases e <;> exact congrArg (· + 1) (each_len (es := es) env)
theorem each_none : ∀ {es : List Expr} (h : es.all nst = true) (env : Env), (assignEach es env).findIdx? (·.1) = none
  | [], _, _ => rfl
  | e :: es, h, env => by
    rw [List.all_cons, Bool.and_eq_true] at h
    rw [each_cons h.1, List.findIdx?_cons]
    simp [each_none h.2]
def vis (sc : Scope) (x : Str) : Bool := match sc.names.lookup x with
  | some .local => true
  | some .cell => true
  | some .free => true
  | _ => false
theorem vis_ok {sc : Scope} {x : Str} (h : vis sc x = true) : Vis sc x := by
  unfold vis at h
  split at h <;> first | exact .inl (by assumption) | exact .inr (.inl (by assumption)) | exact .inr (.inr (by assumption)) | cases h
def glb (sc : Scope) (x : Str) : Bool := match sc.names.lookup x with
  | some .globalImplicit => true
  | _ => false
theorem glb_ok {sc : Scope} {x : Str} (h : glb sc x = true) : sc.names.lookup x = some .globalImplicit := by
  unfold glb at h
  split at h <;> first | assumption | cases h
def lcl (sc : Scope) (x : Str) : Bool := match sc.names.lookup x with
  | some .local => true
  | _ => false
theorem lcl_ok {sc : Scope} {x : Str} (h : lcl sc x = true) : sc.names.lookup x = some .local := by
  unfold lcl at h
  split at h <;> first | assumption | cases h
def cll (sc : Scope) (x : Str) : Bool := match sc.names.lookup x with
  | some .cell => true
  | _ => false
theorem cll_ok {sc : Scope} {x : Str} (h : cll sc x = true) : sc.names.lookup x = some .cell := by
  unfold cll at h
  split at h <;> first | assumption | cases h
def sEq (a b : Str) : Bool := decide (a = b)
theorem sEq_ok {a b : Str} (h : sEq a b = true) : a = b := of_decide_eq_true h
def nDbg (x : Str) : Bool := !(x == ("__debug__" : Str)) && !(x == ("__classdict__" : Str)) && !(x == ("__name__" : Str))
theorem nDbg_ok {x : Str} (h : nDbg x = true) : (x == ("__debug__" : Str)) = false ∧ (x == ("__classdict__" : Str)) = false ∧ x ≠ "__name__" := by
  unfold nDbg at h
  simp only [Bool.and_eq_true, Bool.not_eq_true'] at h
  exact ⟨h.1.1, h.1.2, fun e => by have := h.2; rw [e] at this; simp at this⟩
def cstOk : D → Const → Bool
  | .non, .none => true
  | .bl b, .bool c => b == c
  | .int i, .int j => decide (i = j)
  | .str s, .str x => decide (s = x.cps.toList)
  | _, _ => false
def opOk (o : Op) (b : Operator) : Bool := match o, b with
  | .add, .Add | .sub, .Sub | .mul, .Mult | .fdiv, .FloorDiv | .mod, .Mod | .pow, .Pow => true
  | _, _ => false
theorem opOk_ok {o : Op} {b : Operator} (h : opOk o b = true) : binOf o = some b := by
  cases o <;> cases b <;> first | rfl | (simp [opOk] at h)
def cpOk (o : Op) (b : CmpOp) : Bool := match o, b with
  | .lt, .Lt | .le, .LtE | .gt, .Gt | .ge, .GtE | .eq, .Eq | .ne, .NotEq | .isn, .Is | .notn, .IsNot | .inn, .In | .nin, .NotIn => true
  | _, _ => false
theorem cpOk_ok {o : Op} {b : CmpOp} (h : cpOk o b = true) : cmpOf o = some b := by
  cases o <;> cases b <;> first | rfl | (simp [cpOk] at h)
end VI

namespace VI
open PySem L2 PyProof.Rows
theorem meth_tree {o : Expr} {m : Str} {apos pos : Pos} {args : List Expr} {env : Env} (h1 : nsup o = true) (h2 : args.all nst = true) (h3 : args.length < 30) (h4 : (apos.endLine == pos.line) = true) :
    eval (.Call (.Attribute o m apos) args [] pos) env = (do
      let ov ← eval o env
      standAt apos.atName
      let (f, first) ← holding [ov] (getMethod ov m (do return (← importBound o env).getD true))
      callWith pos f first (backTo pos (starEach args env)) (backToKw pos (keywordEach [] env))) := by
  have hform : methodCallForm (args.length + ([] : List Keyword).length) (backTo pos (starEach args env)) (backToKw pos (keywordEach [] env)) = true := by
    unfold methodCallForm
    rw [show (backTo pos (starEach args env)).all (fun x => !x.1) = true from star_all h2 pos env]
    show (true && true && decide (args.length + 0 < 30)) = true
    simp [h3]
  have hpos : methodCallPos true o env apos pos = pure pos := by unfold methodCallPos; simp [h4]
  rw [arm_eval_Call, base_plain h1]
  unfold methodCall calleeOf
  rw [hform]
  simp only [hpos, if_true, pure_bind]
end VI

/-! VI, part F1: static methods, keywords, an own __contains__. -/
namespace VI
open PySem L2 PyProof.Rows
theorem kw_all {kws : List Keyword} (h : kws.all (fun k => k.arg.isSome) = true) (pos : Pos) (env : Env) : (backToKw pos (keywordEach kws env)).all (·.1.isSome) = true := by
  induction kws with
  | nil => rfl
  | cons k kws ih =>
    obtain ⟨nm, v, p⟩ := k
    rw [List.all_cons, Bool.and_eq_true] at h
    show (nm.isSome && (backToKw pos (keywordEach kws env)).all (·.1.isSome)) = true
    rw [ih h.2, h.1]; rfl
theorem kw_none {kws : List Keyword} (h : kws.all (fun k => k.arg.isSome) = true) (pos : Pos) (env : Env) : (backToKw pos (keywordEach kws env)).any (·.1.isNone) = false := by
  induction kws with
  | nil => rfl
  | cons k kws ih =>
    obtain ⟨nm, v, p⟩ := k
    rw [List.all_cons, Bool.and_eq_true] at h
    show (nm.isNone || (backToKw pos (keywordEach kws env)).any (·.1.isNone)) = false
    rw [ih h.2]
    cases nm with
    | none => cases h.1
    | some _ => rfl
theorem kw_names {kws : List Keyword} (pos : Pos) (env : Env) : (backToKw pos (keywordEach kws env)).filterMap (·.1) = kws.filterMap (·.arg) := by
  induction kws with
  | nil => rfl
  | cons k kws ih =>
    obtain ⟨nm, v, p⟩ := k
    show List.filterMap (·.1) ((nm, _) :: backToKw pos (keywordEach kws env)) = _
    rw [List.filterMap_cons, List.filterMap_cons, ih]
theorem meth_treeK {o : Expr} {m : Str} {apos pos : Pos} {args : List Expr} {kws : List Keyword} {env : Env} (h1 : nsup o = true) (h2 : args.all nst = true) (hk : kws.all (fun k => k.arg.isSome) = true) (h3 : args.length + kws.length < 29) (h4 : (apos.endLine == pos.line) = true) :
    eval (.Call (.Attribute o m apos) args kws pos) env = (do
      let ov ← eval o env
      standAt apos.atName
      let (f, first) ← holding [ov] (getMethod ov m (do return (← importBound o env).getD true))
      callWith pos f first (backTo pos (starEach args env)) (backToKw pos (keywordEach kws env))) := by
  have hform : methodCallForm (args.length + kws.length) (backTo pos (starEach args env)) (backToKw pos (keywordEach kws env)) = true := by
    unfold methodCallForm
    rw [show (backTo pos (starEach args env)).all (fun x => !x.1) = true from star_all h2 pos env, kw_all hk]
    simp only [Bool.and_self, Bool.true_and, decide_eq_true_eq]
    split <;> omega
  have hpos : methodCallPos true o env apos pos = pure pos := by unfold methodCallPos; simp [h4]
  rw [arm_eval_Call, base_plain h1]
  unfold methodCall calleeOf
  rw [hform]
  simp only [hpos, if_true, pure_bind]
/-- C.m is a staticmethod: its record at p, its def at g -/
structure SMet (K : PySem.W.Frag) (C : Addr) (mc : Value) (m : Str) (p g : Addr) : Prop where
  rd : PySem.W.readsIn K C mc = true
  ga : PySem.W.specialIn K (.ref C) "__getattribute__" = some (some (.builtin "type.__getattribute__"))
  at_ : PySem.W.findCls K (.ref C) mc m = some (.get (.builtin "staticmethod.__get__") (.ref p) .none (.ref C))
  rc : ∃ rest, PySem.W.recIn K p "staticmethod" = some (.ref g :: rest)
  kp : PySem.W.keepIn K (.ref g) = true
section
variable {X : Cx} {CX : CXT} {k n : Nat} {C p g : Addr} {mc : Value} {fd : FuncData} {ps ks : List Str} {sp : Sp} {E : XK} {x m : Str} {e o : Expr} {es : List Expr} {kws : List Keyword} {np pos apos : Pos} {ta : TE} {t tk : TA} {pl : Sem Bool}
theorem getsm_ok {pins : List (Addr × Obj)} {σ : L2.St} {H : Hp} {s : Shared} {A : Around} {E : Value → Shared → Prop} {pl : Sem Bool} {Q : Value × List Value → Shared → Prop} (I : Inv X pins σ H s) (r : SMet X.K C mc m p g) (h : ∀ s', Inv X pins σ H s' → Q (.ref g, []) s') :
    wpAny (model X.prog X.w) A (getMethod (.ref C) m pl) Q E s := by
  obtain ⟨rest, hp⟩ := r.rc
  refine PySem.W.method_cls I.kIn r.ga (PySem.W.cls_bind I.kIn r.rd r.at_ ?_)
  refine wpAny_call (PySem.W.sm_get (s := { s with toks := s.toks + 1 }) I.kIn hp (PySem.W.handed_on rfl ?_))
  exact h _ (I.tok _)
def tSt (ta : TE) (C : Addr) (t : TA) (sp : Sp) (E : XK) : TE := fun σ H Q => ta σ H fun x H1 => x = .ref C ∧ t σ H1 fun vs H2 => sp vs H2 Q E
/-- C.m(e, ..) -/
theorem pe_smeth (he : PE X o ta) (r : SMet X.K C mc m p g) (F : FnOk X.prog X.w X.K X.mg X.base CX k g fd ps sp) (hr : Room k X.A) (hb : Binds X.K fd ps []) (hx : Passes CX X E) (ha : PA X (e :: es) t)
    (hst : starEach (e :: es) X.env = (false, eval e X.env) :: starEach es X.env) (hpl : (backTo pos (starEach es X.env)).any (·.1) = false)
    (ht : eval (.Call (.Attribute o m apos) (e :: es) [] pos) X.env = (do
      let ov ← eval o X.env
      standAt apos.atName
      let (f, first) ← holding [ov] (getMethod ov m pl)
      callWith pos f first (backTo pos (starEach (e :: es) X.env)) (backToKw pos (keywordEach [] X.env)))) :
    PE X (.Call (.Attribute o m apos) (e :: es) [] pos) (tSt ta C t sp E) := by
  refine ⟨fun pins s σ H Q I h => ?_⟩
  refine PySem.W.methodCall_KW (pl := pl) (thn (he.run pins s σ H _ I h) fun u s1 ⟨x, H1, I1, rx, ex, q⟩ => ?_) ht
  subst ex
  obtain rfl : u = Value.ref C := rx
  refine getsm_ok I1 r fun s2 I2 => ?_
  refine PySem.W.callWith_K (first := []) (h₀ := X.base) I.ok.mod.kin r.kp (thn (ha.run pos pins s2 σ H1 _ I2 q) fun us s3 ⟨vs, H2, I3, rv, q2⟩ => ⟨I3.kIn, ?_⟩) hst hpl
  exact run_fn (dvs := []) F hr hb .nil hx I3 rv (by rw [List.append_nil]; exact q2)
/-- C.m(k = v, ..) -/
def tStK (ta : TE) (C : Addr) (m : Nat) (tk : TA) (gV : List V → List V → List V) (sp : Sp) (E : XK) : TE := fun σ H Q => ta σ H fun x H1 => x = .ref C ∧ tk σ H1 fun zs H2 => zs.length = m ∧ sp (gV [] zs) H2 Q E
theorem pe_smethK {gf : List Value → List Value → List Value} {gV : List V → List V → List V} (he : PE X o ta) (r : SMet X.K C mc m p g) (F : FnOk X.prog X.w X.K X.mg X.base CX k g fd ps sp) (hr : Room k X.A) (hb : KBn X.K fd ps 0 ks gf gV) (hx : Passes CX X E) (hkw : PK X kws tk)
    (hall : kws.all (fun k => k.arg.isSome) = true) (hks : kws.filterMap (·.arg) = ks)
    (ht : eval (.Call (.Attribute o m apos) [] kws pos) X.env = (do
      let ov ← eval o X.env
      standAt apos.atName
      let (f, first) ← holding [ov] (getMethod ov m pl)
      callWith pos f first (backTo pos (starEach [] X.env)) (backToKw pos (keywordEach kws X.env)))) :
    PE X (.Call (.Attribute o m apos) [] kws pos) (tStK ta C ks.length tk gV sp E) := by
  refine ⟨fun pins s σ H Q I h => ?_⟩
  refine PySem.W.methodCall_KW (pl := pl) (thn (he.run pins s σ H _ I h) fun u s1 ⟨x, H1, I1, rx, ex, q⟩ => ?_) ht
  subst ex
  obtain rfl : u = Value.ref C := rx
  refine getsm_ok I1 r fun s2 I2 => ?_
  refine PySem.W.callWith_KW0 (first := []) (h₀ := X.base) I.ok.mod.kin r.kp (kw_all hall _ _) ?_ (by rw [kw_none hall]; rfl)
  refine thn (hkw.run pos pins s2 σ H1 _ I2 q) fun ws s3 ⟨zs, H2, I3, rz, l2, q2⟩ => ⟨I3.kIn, ?_⟩
  rw [kw_names, hks]
  exact run_fnN (us := []) (vs := []) F hr hb hx I3 .nil rz rfl l2 q2
/-- x in o, o's class has __contains__ -/
def R2Has (C : Addr) (neg : Bool) (sp : Sp) (E : XK) : R2 := fun x y H Q => ∃ a dx fs, y = .ref a ∧ H a = some (.ins C dx fs) ∧ sp [.ref a, x] H (fun v H1 => ∃ b, v = .bl b ∧ Q (.bl (if neg then !b else b)) H1) E
theorem op_has (neg : Bool) (hs : PySem.W.findIn X.K (.ref C) "__contains__" = some (some (.ref g))) (hf : PySem.W.isFn X.K (.ref g) = true) (F : FnOk X.prog X.w X.K X.mg X.base CX k g fd ps sp) (hr : Room k X.A) (hb : Binds X.K fd ps []) (hx : Passes CX X E) :
    OpR X (compareOp (if neg then .NotIn else .In)) (R2Has C neg sp E) := by
  intro pins s σ H x y v u Q I rx ry h
  obtain ⟨a, dx, fs, ey, ea, q⟩ := h
  subst ey
  obtain rfl : u = Value.ref a := ry
  obtain ⟨mA, O, _, _, _, _⟩ := ins_get I.hok ea
  obtain ⟨od, J, _⟩ := O.look
  obtain ⟨mm, fr⟩ := I.fr
  have z : wpAny (model X.prog X.w) X.A (call (.ref g) [.ref a, v]) (EP X pins σ fun v H1 => ∃ b, v = .bl b ∧ Q (.bl (if neg then !b else b)) H1) X.xe s := run_fn (dvs := []) (vs := [.ref a, x]) F hr hb .nil hx I (.cons rfl (.cons rx .nil)) (by rw [List.append_nil]; exact q)
  have done : ∀ (r : Value) (s' : Shared), EP X pins σ (fun v H1 => ∃ b, v = .bl b ∧ Q (.bl (if neg then !b else b)) H1) r s' → wpAny (model X.prog X.w) X.A (truthy r) (fun b s2 => EP X pins σ Q (.bool (if neg then !b else b)) s2) X.xe s' := by
    rintro r s' ⟨w, H1, I1, rw', b, ew, q1⟩
    subst ew
    obtain rfl : r = Value.bool b := rw'
    exact wpAny_pure ⟨.bl (if neg then !b else b), H1, I1, rfl, q1⟩
  cases neg with
  | false => exact PySem.W.in_K fr I.ok.mod.kin J hs hf (thn z fun r s' w => done r s' w)
  | true => exact PySem.W.notIn_K fr I.ok.mod.kin J hs hf (thn z fun r s' w => done r s' w)
end
end VI

/-! VI, part F2: enumerate and zip over what stands still: a list, a tuple, a text. -/
namespace VI
open PySem L2 PyProof.Rows
/-- the items of a thing that stands still -/
inductive Still (K : PySem.W.Frag) (F : Hp) : V → List V → Prop
  | lst {a : Addr} {xs : List V} : SqL K F a xs → Still K F (.ref a) xs
  | tup {a : Addr} {xs : List V} : SqT K F a xs → Still K F (.ref a) xs
  | str (x : Str) : Still K F (.str x) (x.cps.toList.map fun c => V.str ⟨#[c]⟩)
theorem vals_at : ∀ {xs : List V} {us : List Value} {i : Nat} {u : Value}, Vals xs us → us[i]? = some u → ∃ x, xs[i]? = some x ∧ L2.RelV x u
  | _, _, _, _, .nil, e => by simp at e
  | _, _, 0, _, .cons r _, e => by simp at e; subst e; exact ⟨_, rfl, r⟩
  | _, _, i + 1, u, .cons _ t, e => by
    obtain ⟨x, a, b⟩ := vals_at (i := i) (u := u) t (by simpa using e)
    exact ⟨x, by simpa using a, b⟩
/-- its iterator at it -/
structure Sc (P : Program) (w : World) (K : PySem.W.Frag) (F : Hp) (xs : List V) (it : Addr) (fp : List Addr) (st : Nat → Heap → Prop) : Prop where
  mem : it ∈ fp
  obj : ∀ i h, st i h → ∃ o, h.get? it = some o ∧ ∀ v, o.data ≠ .cell v
  keep : ∀ i h h', st i h → (∀ o, h.get? it = some o → h'.get? it = some o) → st i h'
  draws : ∀ (X : Cx) (pins : List (Addr × Obj)) (σ : L2.St) (H : Hp) (s : Shared) (A : Around), X.K = K → Inv X pins σ H s → Ex F H → A.handled = none →
    ∃ (Pd : Nat → Value → Prop) (C : Heap → Prop), C s.heap ∧ Draws P w A it fp xs.length Pd (fun i h => st i h ∧ C h) ∧ ∀ i v, Pd i v → ∃ x, xs[i]? = some x ∧ L2.RelV x v
/-- what a new iterator over it is -/
structure Bg (P : Program) (w : World) (K : PySem.W.Frag) (F : Hp) (xs : List V) (u : Value) (s : Shared) : Prop where
  ex : ∃ (o : Obj) (Hc : Heap → Prop) (fp : List Addr), Begins u o Hc ∧ Hc s.heap ∧ (∀ b ∈ fp, b < s.heap.objs.size) ∧ ∀ it, s.heap.objs.size ≤ it → ∃ st, Sc P w K F xs it (it :: fp) st ∧ ∀ h', h'.get? it = some o → st 0 h'
theorem still_bg {X : Cx} {pins : List (Addr × Obj)} {σ : L2.St} {F H : Hp} {s : Shared} {v : V} {u : Value} {xs : List V} (I : Inv X pins σ H s) (e : Ex F H) (r : L2.RelV v u) (h : Still X.K F v xs) : Bg X.prog X.w X.K F xs u s := by
  cases h with
  | @lst a _ hq =>
    obtain rfl : u = Value.ref a := r
    obtain ⟨its, rv, p, hz⟩ := I.list (e.sqL hq)
    refine ⟨_, _, [a], begins_list a its.toArray, p.isList, fun b hb => by rw [List.mem_singleton.mp hb]; exact p.lt, fun it hle => ⟨fun i h => h.IsListIter it a i, ⟨List.mem_cons_self, ?_, ?_, ?_⟩, fun h' ho => ⟨_, ho, rfl, rfl⟩⟩⟩
    · rintro i h ⟨o, ho, hc, hd⟩
      exact ⟨o, ho, fun v q => by rw [hd] at q; cases q⟩
    · exact fun i h h' st k => st.at fun o q => k o q
    · intro X' pins' σ' H' s' A hK I' ex hh
      obtain ⟨its', rv', p', hz'⟩ := I'.list (a := a) (xs := xs) (by rw [hK]; exact ex.sqL hq)
      have hne : a ≠ it := Nat.ne_of_lt (Nat.lt_of_lt_of_le p.lt hle)
      have D := Draws.list (prog := X.prog) (w := X.w) (A := A) hh it a hne its'.toArray
      have hl : its'.toArray.size = xs.length := by simp [rv'.length]
      rw [hl] at D
      refine ⟨_, fun h => h.IsList a its'.toArray, p'.isList, D, fun i v hv => ?_⟩
      exact vals_at rv' (by simpa using hv)
  | @tup a _ hq =>
    obtain rfl : u = Value.ref a := r
    obtain ⟨its, rv, p, hz⟩ := I.tuple (e.sqT hq)
    refine ⟨_, _, [a], begins_tuple a its.toArray, p, fun b hb => by rw [List.mem_singleton.mp hb]; obtain ⟨_, q, _⟩ := p; exact Heap.lt_size q, fun it hle => ⟨fun i h => h.IsTupleIter it a i, ⟨List.mem_cons_self, ?_, ?_, ?_⟩, fun h' ho => ⟨_, ho, rfl, rfl⟩⟩⟩
    · rintro i h ⟨o, ho, hc, hd⟩
      exact ⟨o, ho, fun v q => by rw [hd] at q; cases q⟩
    · exact fun i h h' st k => st.at fun o q => k o q
    · intro X' pins' σ' H' s' A hK I' ex hh
      obtain ⟨its', rv', p', hz'⟩ := I'.tuple (a := a) (xs := xs) (by rw [hK]; exact ex.sqT hq)
      have hlt : a < s.heap.objs.size := by obtain ⟨_, q, _⟩ := p; exact Heap.lt_size q
      have hne : a ≠ it := Nat.ne_of_lt (Nat.lt_of_lt_of_le hlt hle)
      have D := Draws.tuple (prog := X.prog) (w := X.w) (A := A) hh it a hne its'.toArray
      have hl : its'.toArray.size = xs.length := by simp [rv'.length]
      rw [hl] at D
      refine ⟨_, fun h => h.IsTuple a its'.toArray, p', D, fun i v hv => ?_⟩
      exact vals_at rv' (by simpa using hv)
  | str x =>
    obtain ⟨t, rfl⟩ := r
    refine ⟨_, _, [], begins_text x t, trivial, fun b hb => absurd hb List.not_mem_nil, fun it hle => ⟨fun i h => h.IsStrIter it (strIterType x) x t i, ⟨List.mem_cons_self, ?_, ?_, ?_⟩, fun h' ho => ⟨_, ho, rfl, rfl⟩⟩⟩
    · rintro i h ⟨o, ho, hc, hd⟩
      exact ⟨o, ho, fun v q => by rw [hd] at q; cases q⟩
    · rintro i h h' ⟨o, ho, r⟩ k
      exact ⟨o, k o ho, r⟩
    · intro X' pins' σ' H' s' A hK I' ex hh
      have D := Draws.text (prog := X.prog) (w := X.w) (A := A) hh it x t
      have hl : x.cps.size = (x.cps.toList.map fun c => V.str ⟨#[c]⟩).length := by simp
      rw [hl] at D
      refine ⟨fun i v => ∃ c u, x.cps[i]? = some c ∧ v = .str ⟨#[c]⟩ u, fun _ => True, trivial, ?_, ?_⟩
      · have e : (fun i (h : Heap) => h.IsStrIter it (strIterType x) x t i ∧ True) = fun i h => h.IsStrIter it (strIterType x) x t i := by funext i h; simp
        rw [e]; exact D
      · rintro i v ⟨c, u, hc, rfl⟩
        exact ⟨.str ⟨#[c]⟩, by simpa using hc, u, rfl⟩
/-! ### enumerate -/
def ItEn (F : Hp) (xs : List V) : L2.It :=
  ⟨fun i H => Ex F H ∧ i < xs.length, fun i H v H' => ∃ T x, v = .ref T ∧ H T = none ∧ H' = upd H T (.tup [.int (i : Nat), x]) ∧ xs[i]? = some x, fun i H => Ex F H ∧ i = xs.length⟩
theorem turn_en {P : Program} {w : World} {K : PySem.W.Frag} {elts : List Expr} {kk : Nat} {tpos : Pos} {F : Hp} {xs : List V} {it e : Addr} {fp : List Addr} {st : Nat → Heap → Prop} (S : Sc P w K F xs it fp st) (hef : e ∉ fp) :
    Turn P w K (.Tuple elts kk tpos) (ItEn F xs) [e, it] e (fun i h => (∃ old, IsEnum h e it ((i : Nat) : Int) old) ∧ st i h) where
  mem := by simp
  obj := fun i h st b hb => by
    obtain ⟨⟨old, he⟩, hs⟩ := st
    have e' : b = e ∨ b = it := by simpa using hb
    rcases e' with z | z
    · rw [z]; exact ⟨_, he, fun v q => nomatch q⟩
    · rw [z]; exact S.obj i h hs
  keep := fun i h h' st k => let ⟨⟨old, he⟩, hi⟩ := st; ⟨⟨old, k e (by simp) _ he⟩, S.keep i h h' hi fun o q => k it (by simp) o q⟩
  item := by
    intro X hP hw hK hc i pins s σ H E I hf st hg
    obtain ⟨⟨old, he⟩, hs⟩ := st
    obtain ⟨hex, hlt⟩ := hg
    have hne : e ≠ it := fun q => hef (q ▸ S.mem)
    have hel : e < s.heap.objs.size := Heap.lt_size he
    have hil : it < s.heap.objs.size := by obtain ⟨_, q, _⟩ := S.obj i _ hs; exact Heap.lt_size q
    obtain ⟨Pd, C, hC, D, hPd⟩ := S.draws X pins σ H s X.A.in1 hK I hex (I.ok.hd hc)
    refine wpAny_pyNext_enum_itemC D he ⟨hs, hC⟩ hlt hne hef fun u h' tk hu ho hst' hT hsz hk => ?_
    obtain ⟨x, hx, ru⟩ := hPd i u hu
    refine ⟨_, rfl, wpAny_letOwnedTupleGo_enum (s := { s with heap := h', toks := tk + 1 }) ho fun h'' he' sb => ?_⟩
    have hT2 : h''.get? s.heap.objs.size = some { cls := .type "tuple", data := .seq #[.int i tk, u] } := (sb.2 _ (Nat.ne_of_gt hel)).trans hT
    have new : ObjOk X.prog X.w (upd H s.heap.objs.size (.tup [.int (i : Nat), x])) h'' s.heap.objs.size (.tup [.int (i : Nat), x]) :=
      ⟨by show 2 ≤ sizeLine; decide, [.int i tk, u], .cons ⟨_, rfl⟩ (.cons ru .nil), ⟨_, hT2, rfl, _, rfl⟩⟩
    have I1 : Inv X pins σ (upd H s.heap.objs.size (.tup [.int (i : Nat), x])) { s with heap := h'', toks := tk + 1 } :=
      I.turnedNew (ch := [e, it]) (fun b ob hb q => (sb.2 b (fun z => hb (by simp [z]))).trans (hk b ob (fun z => hb (by simp [z])) (fun z => hb (by simp [z])) q)) hf (Nat.le_refl _) new
    refine ⟨.ref s.heap.objs.size, _, I1, rfl, ⟨_, x, rfl, I.hok.fresh (Nat.le_refl _), rfl, hx⟩, ⟨⟨u, ?_⟩, S.keep _ _ _ hst'.1 fun o q => (sb.2 it (Ne.symm hne)).trans q⟩, fun b hb => ?_⟩
    · have e1 : ((i + 1 : Nat) : Int) = (i : Int) + 1 := by omega
      rw [e1]; exact he'
    · have hb' : b < s.heap.objs.size := by
        have e' : b = e ∨ b = it := by simpa using hb
        rcases e' with z | z
        · rw [z]; exact hel
        · rw [z]; exact hil
      rw [upd_ne (Nat.ne_of_lt hb')]
      exact (hf b hb).1
  done := by
    intro X hP hw hK hc i pins s σ H E I hf st hg
    obtain ⟨⟨old, he⟩, hs⟩ := st
    obtain ⟨hex, rfl⟩ := hg
    obtain ⟨Pd, C, hC, D, hPd⟩ := S.draws X pins σ H s X.A.in1 hK I hex (I.ok.hd hc)
    obtain ⟨f0, f1, f2, f3, f4, f5⟩ := hf it (by simp)
    exact wpAny_pyNext_enum_endD D he ⟨hs, hC⟩ fun h' eb => ⟨rfl, I.turned (t' := s.toks) (fun b o hb q => eb b o hb q) f0 f1 f3 f4 f5⟩
  self := fun A i s Q E st h => let ⟨⟨_, he⟩, _⟩ := st; wpAny_pyIter_enum he h
set_option maxHeartbeats 1000000 in
theorem enum_newB {v : Value} {o : Obj} {H : Heap → Prop} (B : Begins v o H) :
    Meets (Builtin.«enumerate.__new__» ⟨[.type "enumerate", v], []⟩) (fun _ R s => H s.heap ∧
      R (.ok (.ret (.ref (s.heap.push o).objs.size))) { s with heap := (s.heap.push o).push { cls := .type "enumerate", data := .fields #[.none, .bool false, .ref s.heap.objs.size, rawInt 0, .none, .none] } }) :=
  .of_wp fun prog w A R s h => by
    obtain ⟨hp, g, d, tk, os⟩ := s; obtain ⟨h1, h⟩ := h
    have hsub := sub_enumerate
    have q1 : ∀ {A' : Around} {E : Value → Shared → Prop} {Q : Value → Shared → Prop}, Q (.ref hp.objs.size) ⟨hp.push o, g, d, tk, os⟩ → wpAny (model prog w) A' (pyIter v) Q E ⟨hp, g, d, tk, os⟩ :=
      fun q => B.iter prog w _ _ ⟨hp, g, d, tk, os⟩ _ h1 q
    wp_walk using q1
    refine wpAny_stack_any fun st => wpAny_pure ?_
    split
    · rename_i c _ _ _ _ _
      cases (c == Value.type "enumerate")
      · wp_walk using q1
        exact ⟨_, rfl, h⟩
      · wp_walk using q1
        exact ⟨_, rfl, h⟩
    · wp_walk using q1
      exact ⟨_, rfl, h⟩
theorem enum_call {prog : Program} {w : World} {A : Around} {E : Value → Shared → Prop} {s : Shared} {v : Value} {o : Obj} {H : Heap → Prop} {Q : Value → Shared → Prop} (B : Begins v o H) (h1 : H s.heap)
    (h : ∀ h', IsEnum h' (s.heap.objs.size + 1) s.heap.objs.size 0 .none → h'.get? s.heap.objs.size = some o → h'.objs.size = s.heap.objs.size + 2 →
      (∀ b o, s.heap.get? b = some o → h'.get? b = some o) → Q (.ref (s.heap.objs.size + 1)) { s with heap := h' }) :
    wpAny (model prog w) A (call (.type "enumerate") [v]) Q E s := by
  refine callType_new F.called_enumerate (by decide) (F.typeCall_enumerate_1 _) (F.newCall_enumerate_1 _) (fun obj => F.args_object_init_2 obj _) F.entry_enumerate_new (enum_newB B) ⟨h1, ?_⟩
  have hz : (s.heap.push o).objs.size = s.heap.objs.size + 1 := Heap.size_push ..
  show _ ∧ _
  rw [hz]
  have he : IsEnum ((s.heap.push o).push { cls := .type "enumerate", data := .fields #[.none, .bool false, .ref s.heap.objs.size, rawInt 0, .none, .none] }) (s.heap.objs.size + 1) s.heap.objs.size 0 .none := by
    have := Heap.get?_push_size (s.heap.push o) (o := { cls := .type "enumerate", data := .fields #[.none, .bool false, .ref s.heap.objs.size, rawInt 0, .none, .none] }) rfl
    rw [hz] at this; exact this
  exact ⟨⟨_, he, rfl⟩, h _ he (Heap.get?_push_of_some _ (Heap.get?_push_size _ B.free)) (by rw [Heap.size_push, hz]) fun b o x => Heap.get?_push_of_some _ (Heap.get?_push_of_some _ x)⟩
def iEn (K : PySem.W.Frag) (ta : TA) : TI := fun σ H R => ta σ H fun vs H1 => ∃ v xs F, vs = [v] ∧ Ex F H1 ∧ Still K F v xs ∧ R (ItEn F xs) H1
theorem pi_en {X : Cx} {e : Expr} {ta : TA} {p pos tpos : Pos} {elts : List Expr} {kk : Nat} (hg : Gl X "enumerate") (hm : X.mg "enumerate" = none) (ha : PA X [e] ta) (hs : starEach [e] X.env = [(false, eval e X.env)]) :
    PI X (.Tuple elts kk tpos) (.Call (.Name "enumerate" p) [e] [] pos) (iEn X.K ta) := by
  refine ⟨fun pins s σ H R I h => ?_⟩
  refine Call_ (ld_blt I hg hm boot_enumerate (PyProof.Rows.callWith_type1 (thn (ha.run pos pins s σ H _ I h) fun us s1 ⟨vs, H1, I1, r1, q1⟩ => ?_) hs rfl))
  obtain ⟨v, xs, F, ex, hex, hq, q⟩ := q1
  subst ex
  cases r1 with
  | cons r rr =>
    cases rr
    obtain ⟨o, Hc, fp, B, hHc, hfp, hst⟩ := (still_bg I1 hex r hq).ex
    refine enum_call B hHc fun h' he ho hsz hk => wpAny_pyIter_enum he ?_
    have I2 : Inv X pins σ H1 { s1 with heap := h' } := I1.kept (t' := s1.toks) hk
    obtain ⟨st, S, s0⟩ := hst s1.heap.objs.size (Nat.le_refl _)
    have hef : s1.heap.objs.size + 1 ∉ s1.heap.objs.size :: fp := fun hmem => by
      rcases List.mem_cons.mp hmem with z | z
      · exact Nat.succ_ne_self _ z
      · exact Nat.lt_irrefl _ (Nat.lt_trans (Nat.lt_succ_self _) (hfp _ z))
    refine ⟨s1.heap.objs.size + 1, [s1.heap.objs.size + 1, s1.heap.objs.size], _, _, H1, rfl, I2, turn_en S hef, ⟨⟨.none, he⟩, s0 h' ho⟩, fun b hb => ?_, q⟩
    have e' : b = s1.heap.objs.size + 1 ∨ b = s1.heap.objs.size := by simpa using hb
    have hle : s1.heap.objs.size ≤ b := by
      rcases e' with z | z
      · rw [z]; exact Nat.le_add_right _ _
      · rw [z]; exact Nat.le_refl _
    exact I1.fpOk hle (I1.hok.fresh hle)
/-! ### zip -/
def ItZp (F : Hp) (xs ys : List V) : L2.It :=
  ⟨fun i H => Ex F H ∧ i < xs.length ∧ i < ys.length, fun i H v H' => ∃ T x y, v = .ref T ∧ H T = none ∧ H' = upd H T (.tup [x, y]) ∧ xs[i]? = some x ∧ ys[i]? = some y,
    fun i H => Ex F H ∧ i ≤ xs.length ∧ i ≤ ys.length ∧ (i = xs.length ∨ i = ys.length)⟩
theorem turn_zp {P : Program} {w : World} {K : PySem.W.Frag} {elts : List Expr} {kk : Nat} {tpos : Pos} {F : Hp} {xs ys : List V} {z TI TO i1 i2 : Addr} {fp1 fp2 : List Addr} {st1 st2 : Nat → Heap → Prop} (S1 : Sc P w K F xs i1 fp1 st1) (S2 : Sc P w K F ys i2 fp2 st2) (D : ZipSep2 z TI TO i1 i2 fp1 fp2) :
    Turn P w K (.Tuple elts kk tpos) (ItZp F xs ys) [z, TI, TO, i1, i2] z (fun i h => IsZip h z TI TO .none ∧ IsTupOf2 h TI (.ref i1) (.ref i2) ∧ (∃ x y, IsTupOf2 h TO x y) ∧ st1 i h ∧ st2 i h) where
  mem := by simp
  obj := fun i h st c hc => by
    obtain ⟨hz, hTI, ⟨x, y, hTO⟩, h1, h2⟩ := st
    have e' : c = z ∨ c = TI ∨ c = TO ∨ c = i1 ∨ c = i2 := by simpa using hc
    rcases e' with q | q | q | q | q
    · rw [q]; exact ⟨_, hz, fun v q => nomatch q⟩
    · rw [q]; exact ⟨_, hTI, fun v q => nomatch q⟩
    · rw [q]; exact ⟨_, hTO, fun v q => nomatch q⟩
    · rw [q]; exact S1.obj i h h1
    · rw [q]; exact S2.obj i h h2
  keep := fun i h h' st k => by
    obtain ⟨hz, hTI, ⟨x, y, hTO⟩, h1, h2⟩ := st
    exact ⟨k z (by simp) _ hz, k TI (by simp) _ hTI, ⟨x, y, k TO (by simp) _ hTO⟩, S1.keep i h h' h1 fun o q => k i1 (by simp) o q, S2.keep i h h' h2 fun o q => k i2 (by simp) o q⟩
  item := by
    intro X hP hw hK hc i pins s σ H E I hf st hg
    obtain ⟨hz, hTI, ⟨x0, y0, hTO⟩, h1, h2⟩ := st
    obtain ⟨hex, l1, l2⟩ := hg
    obtain ⟨Pd1, C1, hC1, D1, hPd1⟩ := S1.draws X pins σ H s X.A.in1 hK I hex (I.ok.hd hc)
    obtain ⟨Pd2, C2, hC2, D2, hPd2⟩ := S2.draws X pins σ H s X.A.in1 hK I hex (I.ok.hd hc)
    have hzl : z < s.heap.objs.size := Heap.lt_size hz
    refine wpAny_pyNext_zipD2_item D D1 D2 hz hTI hTO ⟨h1, hC1⟩ ⟨h2, hC2⟩ l1 l2 fun u u2 h' tk hu hu2 z' TO' h1' h2' hT hsz hk => ?_
    obtain ⟨x, hx, ru⟩ := hPd1 i u hu
    obtain ⟨y, hy, ru2⟩ := hPd2 i u2 hu2
    refine ⟨_, rfl, wpAny_letOwnedTupleGo_zip (s := { s with heap := h', toks := tk }) z' fun h'' z'' sb => ?_⟩
    have hT2 : h''.get? s.heap.objs.size = some { cls := .type "tuple", data := .seq #[u, u2] } := (sb.2 _ (Nat.ne_of_gt hzl)).trans hT
    have new : ObjOk X.prog X.w (upd H s.heap.objs.size (.tup [x, y])) h'' s.heap.objs.size (.tup [x, y]) :=
      ⟨by show 2 ≤ sizeLine; decide, [u, u2], .cons ru (.cons ru2 .nil), ⟨_, hT2, rfl, _, rfl⟩⟩
    have I1 : Inv X pins σ (upd H s.heap.objs.size (.tup [x, y])) { s with heap := h'', toks := tk } :=
      I.turnedNew (ch := [z, TI, TO, i1, i2]) (fun c o hb q => (sb.2 c (fun q' => hb (by simp [q']))).trans (hk c o (fun q' => hb (by simp [q'])) (fun q' => hb (by simp [q'])) (fun q' => hb (by simp [q'])) (fun q' => hb (by simp [q'])) q)) hf (Nat.le_refl _) new
    refine ⟨.ref s.heap.objs.size, _, I1, rfl, ⟨_, x, y, rfl, I.hok.fresh (Nat.le_refl _), rfl, hx, hy⟩, ⟨z'', ?_, ⟨u, u2, ?_⟩, ?_, ?_⟩, fun c hcm => ?_⟩
    · exact (sb.2 _ D.TIz).trans (hk _ _ D.TIz D.TITO D.TIi1 D.TIi2 hTI)
    · exact (sb.2 _ D.TOz).trans TO'
    · exact S1.keep _ _ _ h1'.1 fun o q => (sb.2 _ (Ne.symm D.zi1)).trans q
    · exact S2.keep _ _ _ h2'.1 fun o q => (sb.2 _ (Ne.symm D.zi2)).trans q
    · have hlt : c < s.heap.objs.size := by
        have e' : c = z ∨ c = TI ∨ c = TO ∨ c = i1 ∨ c = i2 := by simpa using hcm
        rcases e' with q | q | q | q | q
        · rw [q]; exact hzl
        · rw [q]; exact Heap.lt_size hTI
        · rw [q]; exact Heap.lt_size hTO
        · rw [q]; obtain ⟨_, e1, _⟩ := S1.obj i _ h1; exact Heap.lt_size e1
        · rw [q]; obtain ⟨_, e2, _⟩ := S2.obj i _ h2; exact Heap.lt_size e2
      rw [upd_ne (Nat.ne_of_lt hlt)]
      exact (hf c hcm).1
  done := by
    intro X hP hw hK hc i pins s σ H E I hf st hg
    obtain ⟨hz, hTI, ⟨x0, y0, hTO⟩, h1, h2⟩ := st
    obtain ⟨hex, l1, l2, hend⟩ := hg
    obtain ⟨Pd1, C1, hC1, D1, hPd1⟩ := S1.draws X pins σ H s X.A.in1 hK I hex (I.ok.hd hc)
    obtain ⟨Pd2, C2, hC2, D2, hPd2⟩ := S2.draws X pins σ H s X.A.in1 hK I hex (I.ok.hd hc)
    exact wpAny_pyNext_zipD2_end D D1 D2 hz hTI hTO ⟨h1, hC1⟩ ⟨h2, hC2⟩ l1 l2 hend fun h' tk hk => ⟨rfl, I.turnedL (t' := tk) (ch := [z, TI, TO, i1, i2]) (fun c o hb q =>
      hk c o (fun q' => hb (by simp [q'])) (fun q' => hb (by simp [q'])) (fun q' => hb (by simp [q'])) (fun q' => hb (by simp [q'])) q) hf⟩
  self := fun A i s Q E st h => wpAny_pyIter_zip st.1 h
def iZp (K : PySem.W.Frag) (ta : TA) : TI := fun σ H R => ta σ H fun vs H1 => ∃ v v2 xs ys F, vs = [v, v2] ∧ Ex F H1 ∧ Still K F v xs ∧ Still K F v2 ys ∧ R (ItZp F xs ys) H1
theorem pi_zp {X : Cx} {e e2 : Expr} {ta : TA} {p pos tpos : Pos} {elts : List Expr} {kk : Nat} (hg : Gl X "zip") (hm : X.mg "zip" = none) (ha : PA X [e, e2] ta)
    (hs : starEach [e, e2] X.env = (false, eval e X.env) :: starEach [e2] X.env) (hpl : (backTo pos (starEach [e2] X.env)).any (·.1) = false) :
    PI X (.Tuple elts kk tpos) (.Call (.Name "zip" p) [e, e2] [] pos) (iZp X.K ta) := by
  refine ⟨fun pins s σ H R I h => ?_⟩
  refine Call_ (ld_blt I hg hm PyProof.Rows.boot_zip (PyProof.Rows.callWith_type1 (thn (ha.run pos pins s σ H _ I h) fun us s1 ⟨vs, H1, I1, r1, q1⟩ => ?_) hs hpl))
  obtain ⟨v, v2, xs, ys, F, ex, hex, hqx, hqy, q⟩ := q1
  subst ex
  cases r1 with
  | cons r rr =>
    cases rr with
    | cons r' rr =>
      cases rr
      obtain ⟨o, Hc, fp, B, hHc, hfp, hst⟩ := (still_bg I1 hex r hqx).ex
      obtain ⟨o2, Hc2, fp2, B2, hHc2, hfp2, hst2⟩ := (still_bg I1 hex r' hqy).ex
      refine zip_begins2 B B2 hHc hHc2 fun h' hz hTI hTO h1 h2 hsz hk => wpAny_pyIter_zip hz ?_
      have I2 : Inv X pins σ H1 { s1 with heap := h' } := I1.kept (t' := s1.toks) hk
      obtain ⟨st, S, s0⟩ := hst s1.heap.objs.size (Nat.le_refl _)
      obtain ⟨st2, S2, s02⟩ := hst2 (s1.heap.objs.size + 1) (Nat.le_add_right _ _)
      refine ⟨s1.heap.objs.size + 4, [s1.heap.objs.size + 4, s1.heap.objs.size + 2, s1.heap.objs.size + 3, s1.heap.objs.size, s1.heap.objs.size + 1], _, _, H1, rfl, I2, turn_zp S S2 (zip_sep2 hfp hfp2), ⟨hz, hTI, ⟨_, _, hTO⟩, s0 h' h1, s02 h' h2⟩, fun c hcm => ?_, q⟩
      have e' : c = s1.heap.objs.size + 4 ∨ c = s1.heap.objs.size + 2 ∨ c = s1.heap.objs.size + 3 ∨ c = s1.heap.objs.size ∨ c = s1.heap.objs.size + 1 := by simpa using hcm
      have hle : s1.heap.objs.size ≤ c := by
        rcases e' with z | z | z | z | z
        · rw [z]; exact Nat.le_add_right _ _
        · rw [z]; exact Nat.le_add_right _ _
        · rw [z]; exact Nat.le_add_right _ _
        · rw [z]; exact Nat.le_refl _
        · rw [z]; exact Nat.le_add_right _ _
      exact I1.fpOk hle (I1.hok.fresh hle)
end VI

/-! VI, part F3: dict(zip(text, tuple)). -/
namespace VI
open PySem L2 PyProof.Rows
section
variable {prog : Program} {w : World} {A : Around} {E : Value → Shared → Prop} {s : Shared} {z TI TO T i1 i2 : Addr} {fp1 fp2 : List Addr} {n1 n2 i : Nat} {P1 P2 : Nat → Value → Prop} {St1 St2 : Nat → Heap → Prop} {f : Bool} {oT : Obj}
theorem zipH_item {Q : Value → Shared → Prop} (S : ZipSep2 z TI TO i1 i2 fp1 fp2) (D1 : Draws prog w A i1 fp1 n1 P1 St1) (D2 : Draws prog w A i2 fp2 n2 P2 St2)
    (hz : IsZipHeld s.heap z TI TO T f) (hT : s.heap.get? T = some oT) (hTI : IsTupOf2 s.heap TI (.ref i1) (.ref i2)) (st1 : St1 i s.heap) (st2 : St2 i s.heap) (hlt1 : i < n1) (hlt2 : i < n2)
    (hQ : ∀ x1 x2 h' tk, P1 i x1 → P2 i x2 → IsZipHeld h' z TI TO T true → St1 (i + 1) h' → St2 (i + 1) h' → IsTupOf2 h' s.heap.objs.size x1 x2 → h'.objs.size = s.heap.objs.size + 1 →
      (∀ c o, c ≠ z → c ≠ i1 → c ≠ i2 → s.heap.get? c = some o → h'.get? c = some o) → Q (.ref s.heap.objs.size) { s with heap := h', toks := tk }) :
    wpAny (model prog w) A (Builtin.«zip.__next__» ⟨[.ref z], []⟩) (fun fin s' => ∃ v, fin = .done (.ret v) ∧ Q v s') E s := by
  obtain ⟨hp, g, d, tk0, os⟩ := s
  show wpAny _ _ (field (.ref z) 2 >>= _) _ _ _
  refine wpAny_bind (wpAny_field hz rfl (x := .bool false) rfl ?_)
  show wpAny _ _ (field (.ref z) 3 >>= _) _ _ _
  refine wpAny_bind (wpAny_field hz rfl (x := .ref TI) rfl ?_)
  refine wpAny_bind (wpAny_seqItems hTI rfl ?_)
  show wpAny _ _ (Builtin.SmallTypes.ownedTupleIsFree (.ref z) >>= _) _ _ _
  refine wpAny_bind (wpAny_tupleHeld_zip hz hT fun g1 hz1 hs1 => ?_)
  replace hs1 : Heap.SameBut z hp g1 := hs1
  simp only [Bool.false_eq_true, if_false]
  refine wpAny_bind ?_
  rw [← Array.forIn_toList]
  simp only [List.forIn_cons, List.forIn_nil]
  refine wpAny_bind (wpAny_bind (wpAny_holding ?_))
  show wpAny _ _ (Builtin.SmallTypes.nextOf (.ref i1) >>= _) _ _ ⟨g1, g, d, tk0, os⟩
  refine wpAny_bind (D1.item i _ _ _ hlt1 (D1.over st1 hs1 S.zf1) fun x1 p1 tk1 hx1 sn1 hp1 => wpAny_pure ?_)
  replace hp1 : Heap.SameBut i1 g1 p1 := hp1
  refine wpAny_pure ?_
  refine wpAny_bind (wpAny_bind (wpAny_holding ?_))
  show wpAny _ _ (Builtin.SmallTypes.nextOf (.ref i2) >>= _) _ _ ⟨p1, g, d, tk1, os⟩
  refine wpAny_bind (D2.item i _ _ _ hlt2 (D2.over (D2.over st2 hs1 S.zf2) hp1 S.sep1_2) fun x2 p2 tk2 hx2 sn2 hp2 => wpAny_pure ?_)
  replace hp2 : Heap.SameBut i2 p1 p2 := hp2
  refine wpAny_pure (wpAny_pure ?_)
  show wpAny _ _ (newTuple [x1, x2] >>= _) _ _ _
  refine wpAny_bind (wpAny_newTuple ?_)
  have hsz : p2.objs.size = hp.objs.size := by rw [hp2.1, hp1.1, hs1.1]
  have hz3 : IsZipHeld p2 z TI TO T true := hp2.extBut _ _ S.zi2 (hp1.extBut _ _ S.zi1 hz1)
  have hk : ∀ c o, c ≠ z → c ≠ i1 → c ≠ i2 → hp.get? c = some o → p2.get? c = some o := fun c o c1 c2 c3 e => hp2.extBut _ _ c3 (hp1.extBut _ _ c2 (hs1.extBut _ _ c1 e))
  have q1 : St1 (i + 1) p2 := D1.over sn1 hp2 S.sep2_1
  refine wpAny_pure ⟨_, rfl, ?_⟩
  show Q (.ref p2.objs.size) _
  have hpp : IsTupOf2 (p2.push { cls := .type "tuple", data := .seq #[x1, x2] }) p2.objs.size x1 x2 := Heap.get?_push_size _ rfl
  have hz4 : (p2.push { cls := .type "tuple", data := .seq #[x1, x2] }).objs.size = p2.objs.size + 1 := Heap.size_push ..
  rw [hsz] at hpp hz4 ⊢
  exact hQ x1 x2 _ tk2 hx1 hx2 (Heap.get?_push_of_some _ hz3) (D1.frame _ _ _ q1 fun b hb o e => Heap.get?_push_of_some _ e) (D2.frame _ _ _ sn2 fun b hb o e => Heap.get?_push_of_some _ e) hpp hz4 fun c o c1 c2 c3 e => Heap.get?_push_of_some _ (hk c o c1 c2 c3 e)
theorem zipH_end {Q : Fin → Shared → Prop} (S : ZipSep2 z TI TO i1 i2 fp1 fp2) (D1 : Draws prog w A i1 fp1 n1 P1 St1) (D2 : Draws prog w A i2 fp2 n2 P2 St2)
    (hz : IsZipHeld s.heap z TI TO T f) (hT : s.heap.get? T = some oT) (hTI : IsTupOf2 s.heap TI (.ref i1) (.ref i2)) (st1 : St1 i s.heap) (st2 : St2 i s.heap) (hle1 : i ≤ n1) (hle2 : i ≤ n2) (hend : i = n1 ∨ i = n2)
    (hE : ∀ h' tk e, (∀ c o, c ≠ z → c ≠ i1 → c ≠ i2 → s.heap.get? c = some o → h'.get? c = some o) → (∃ o, h'.get? e = some o ∧ o.cls = .type "StopIteration") → E (.ref e) { s with heap := h', toks := tk }) :
    wpAny (model prog w) A (Builtin.«zip.__next__» ⟨[.ref z], []⟩) Q E s := by
  obtain ⟨hp, g, d, tk0, os⟩ := s
  show wpAny _ _ (field (.ref z) 2 >>= _) _ _ _
  refine wpAny_bind (wpAny_field hz rfl (x := .bool false) rfl ?_)
  show wpAny _ _ (field (.ref z) 3 >>= _) _ _ _
  refine wpAny_bind (wpAny_field hz rfl (x := .ref TI) rfl ?_)
  refine wpAny_bind (wpAny_seqItems hTI rfl ?_)
  show wpAny _ _ (Builtin.SmallTypes.ownedTupleIsFree (.ref z) >>= _) _ _ _
  refine wpAny_bind (wpAny_tupleHeld_zip hz hT fun g1 hz1 hs1 => ?_)
  replace hs1 : Heap.SameBut z hp g1 := hs1
  simp only [Bool.false_eq_true, if_false]
  refine wpAny_bind ?_
  rw [← Array.forIn_toList]
  simp only [List.forIn_cons, List.forIn_nil]
  refine wpAny_bind (wpAny_bind (wpAny_holding ?_))
  show wpAny _ _ (Builtin.SmallTypes.nextOf (.ref i1) >>= _) _ _ ⟨g1, g, d, tk0, os⟩
  by_cases hlt1 : i < n1
  · refine wpAny_bind (D1.item i _ _ _ hlt1 (D1.over st1 hs1 S.zf1) fun x1 p1 tk1 hx1 sn1 hp1 => wpAny_pure ?_)
    replace hp1 : Heap.SameBut i1 g1 p1 := hp1
    refine wpAny_pure ?_
    have hi2 : i = n2 := by omega
    refine wpAny_bind (wpAny_bind (wpAny_holding ?_))
    show wpAny _ _ (Builtin.SmallTypes.nextOf (.ref i2) >>= _) _ _ ⟨p1, g, d, tk1, os⟩
    refine wpAny_bind (D2.done ⟨p1, g, d, tk1, os⟩ _ _ (by rw [← hi2]; exact D2.over (D2.over st2 hs1 S.zf2) hp1 S.sep1_2) fun q e hq he => ?_)
    replace hq : Heap.ExtBut i2 p1 q := hq
    exact hE q tk1 e (fun c o c1 c2 c3 x => hq _ _ c3 (hp1.extBut _ _ c2 (hs1.extBut _ _ c1 x))) he
  · have hi1 : i = n1 := by omega
    refine wpAny_bind (D1.done ⟨g1, g, d, tk0, os⟩ _ _ (by rw [← hi1]; exact D1.over st1 hs1 S.zf1) fun q e hq he => ?_)
    replace hq : Heap.ExtBut i1 g1 q := hq
    exact hE q tk0 e (fun c o c1 c2 c3 x => hq _ _ c2 (hs1.extBut _ _ c1 x)) he
theorem nextH_item {Q : Option Value → Shared → Prop} (S : ZipSep2 z TI TO i1 i2 fp1 fp2) (D1 : Draws prog w A.in1 i1 fp1 n1 P1 St1) (D2 : Draws prog w A.in1 i2 fp2 n2 P2 St2)
    (hz : IsZipHeld s.heap z TI TO T f) (hT : s.heap.get? T = some oT) (hTI : IsTupOf2 s.heap TI (.ref i1) (.ref i2)) (st1 : St1 i s.heap) (st2 : St2 i s.heap) (hlt1 : i < n1) (hlt2 : i < n2)
    (hQ : ∀ x1 x2 h' tk, P1 i x1 → P2 i x2 → IsZipHeld h' z TI TO T true → St1 (i + 1) h' → St2 (i + 1) h' → IsTupOf2 h' s.heap.objs.size x1 x2 → h'.objs.size = s.heap.objs.size + 1 →
      (∀ c o, c ≠ z → c ≠ i1 → c ≠ i2 → s.heap.get? c = some o → h'.get? c = some o) → Q (some (.ref s.heap.objs.size)) { s with heap := h', toks := tk }) :
    wpAny (model prog w) A (pyNext (.ref z)) Q E s := by
  have hTy : s.TypeIs (.ref z) "zip" := ⟨_, hz, rfl⟩
  unfold pyNext
  exact wpAny_bind (wpAny_attempt (wpAny_callSpecial?_slot (name := Str.ofString "__next__") hTy F.slot_zip_next
    (wpAny_call_entry F.slot_zip_next hTy F.entry_zip_next
      (zipH_item S D1 D2 hz hT hTI st1 st2 hlt1 hlt2 fun x1 x2 h' tk a0 b0 a1 a3 a4 a5 a6 a7 => wpAny_pure (hQ x1 x2 h' tk a0 b0 a1 a3 a4 a5 a6 a7)) (F.args_zip_next_1 _))))
theorem nextH_end {Q : Option Value → Shared → Prop} (S : ZipSep2 z TI TO i1 i2 fp1 fp2) (D1 : Draws prog w A.in1 i1 fp1 n1 P1 St1) (D2 : Draws prog w A.in1 i2 fp2 n2 P2 St2)
    (hz : IsZipHeld s.heap z TI TO T f) (hT : s.heap.get? T = some oT) (hTI : IsTupOf2 s.heap TI (.ref i1) (.ref i2)) (st1 : St1 i s.heap) (st2 : St2 i s.heap) (hle1 : i ≤ n1) (hle2 : i ≤ n2) (hend : i = n1 ∨ i = n2)
    (hQ : ∀ h' tk, (∀ c o, c ≠ z → c ≠ i1 → c ≠ i2 → s.heap.get? c = some o → h'.get? c = some o) → Q none { s with heap := h', toks := tk }) : wpAny (model prog w) A (pyNext (.ref z)) Q E s := by
  have hTy : s.TypeIs (.ref z) "zip" := ⟨_, hz, rfl⟩
  unfold pyNext
  refine wpAny_bind (wpAny_attempt (wpAny_callSpecial?_slot (name := Str.ofString "__next__") hTy F.slot_zip_next
    (wpAny_call_entry F.slot_zip_next hTy F.entry_zip_next (zipH_end S D1 D2 hz hT hTI st1 st2 hle1 hle2 hend fun h' tk e hk he => ?_) (F.args_zip_next_1 _))))
  obtain ⟨o, ho, hc⟩ := he
  refine wpAny_bind (wpAny_isInstance (T := "StopIteration") (b := true) ⟨o, ho, hc⟩ isSubtype_stop ?_)
  exact wpAny_pure (hQ _ _ hk)
end
/-- zip(text, tuple) as the argument of dict -/
theorem pair_zip {prog : Program} {w : World} {z TI TO i1 i2 a : Addr} {x : Str} {t : Tok} {its : Array Value} (S : ZipSep2 z TI TO i1 i2 [i1] [i2, a]) (ha : a ≠ i2) :
    PairArg prog w "zip" z [z, TI, TO, i1, i2, a] [z, TO, i1, i2] (min x.cps.size its.size) (fun i k v => (∃ c u, x.cps[i]? = some c ∧ k = .str ⟨#[c]⟩ u) ∧ its[i]? = some v)
      (fun h => IsZip h z TI TO .none ∧ IsTupOf2 h TI (.ref i1) (.ref i2) ∧ (∃ a b, IsTupOf2 h TO a b) ∧ h.IsStrIter i1 (strIterType x) x t 0 ∧ h.IsTupleIter i2 a 0 ∧ h.IsTuple a its) where
  type := fun s ok => ⟨_, ok.1, rfl⟩
  notDict := by decide
  keep := fun h h' ok hk => by
    obtain ⟨hz, hTI, ⟨a, b, hTO⟩, ⟨o, h1, r⟩, h2, hl2⟩ := ok
    exact ⟨hk _ _ hz, hk _ _ hTI, ⟨a, b, hk _ _ hTO⟩, ⟨o, hk _ _ h1, r⟩, h2.at fun o e => hk _ o e, hl2.at fun o e => hk _ o e⟩
  there := fun h ok b hb => by
    obtain ⟨hz, hTI, ⟨a, c, hTO⟩, ⟨o1, h1, _⟩, ⟨o2, h2, _⟩, ⟨o4, hl2, _⟩⟩ := ok
    simp only [List.mem_cons, List.not_mem_nil, or_false] at hb
    rcases hb with rfl | rfl | rfl | rfl | rfl | rfl
    all_goals first | exact ⟨_, hz⟩ | exact ⟨_, hTI⟩ | exact ⟨_, hTO⟩ | exact ⟨_, h1⟩ | exact ⟨_, h2⟩ | exact ⟨_, hl2⟩
  sub := fun b hb => by simp at hb ⊢; rcases hb with rfl | rfl | rfl | rfl <;> simp
  noKeys := fun A s Q E hA ok h => getAttrOr_miss_zip ok.1 rfl rfl rfl zip_no_keys (by decide +kernel) hA h
  iter := fun A s d Q E hA ok hd hdf h => by
    obtain ⟨hz, hTI, ⟨a', b', hTO⟩, h1, h2, hl2⟩ := ok
    simp only [List.mem_cons, List.not_mem_nil, or_false, not_or] at hdf
    obtain ⟨dz, dTI, dTO, di1, di2, dl2⟩ := hdf
    have D1 : Draws prog w A.in1 i1 [i1] x.cps.size (fun i v => ∃ c u, x.cps[i]? = some c ∧ v = .str ⟨#[c]⟩ u) (fun i h => h.IsStrIter i1 (strIterType x) x t i) := Draws.text (A := A.in1) hA i1 x t
    have D2 : Draws prog w A.in1 i2 [i2, a] its.size (fun i v => its[i]? = some v) (fun i h => h.IsTupleIter i2 a i ∧ h.IsTuple a its) := Draws.tuple (A := A.in1) hA i2 a ha its
    refine wpAny_pyIter_zip hz (h z [z, TO, i1, i2] (fun i h => IsTupOf2 h TI (.ref i1) (.ref i2) ∧ h.IsStrIter i1 (strIterType x) x t i ∧ (h.IsTupleIter i2 a i ∧ h.IsTuple a its) ∧
      ((IsZip h z TI TO .none ∧ ∃ a b, IsTupOf2 h TO a b) ∨ ∃ T f oT, IsZipHeld h z TI TO T f ∧ h.get? T = some oT ∧ T ≠ z ∧ T ≠ i1 ∧ T ≠ i2 ∧ T ≠ d)) s.heap s.toks ?_
      ⟨hTI, h1, ⟨h2, hl2⟩, .inl ⟨hz, a', b', hTO⟩⟩ (fun _ _ e => e) fun b hb => .inl hb)
    have live1 : ∀ {i : Nat} {h : Heap}, h.IsStrIter i1 (strIterType x) x t i → ∃ o, h.get? i1 = some o := fun q => let ⟨o, e, _⟩ := q; ⟨o, e⟩
    exact {
      off := fun hm => by
        simp only [List.mem_cons, List.not_mem_nil, or_false] at hm
        rcases hm with e | e | e | e
        · exact dz e
        · exact dTO e
        · exact di1 e
        · exact di2 e
      frame := fun i h₁ h₂ st hk => by
        obtain ⟨hTI, h1, h2, hz⟩ := st
        refine ⟨hk _ _ (Ne.symm dTI) hTI, D1.frame _ _ _ h1 fun b hb o e => hk b o (fun q => di1 (by rw [← q]; exact List.mem_singleton.mp hb)) e, D2.frame _ _ _ h2 fun b hb o e => hk b o (fun q => ?_) e, ?_⟩
        · subst q
          rcases List.mem_cons.mp hb with r | r
          · exact di2 r
          · exact dl2 (List.mem_singleton.mp r)
        · rcases hz with ⟨hz, a, b, hTO⟩ | ⟨T, f, oT, hz, hT, r1, r2, r3, r4⟩
          · exact .inl ⟨hk _ _ (Ne.symm dz) hz, a, b, hk _ _ (Ne.symm dTO) hTO⟩
          · exact .inr ⟨T, f, oT, hk _ _ (Ne.symm dz) hz, hk _ _ r4 hT, r1, r2, r3, r4⟩
      item := fun i s₁ Q₁ E₁ hi st hds hQ => by
        obtain ⟨hTI, h1, h2, hz⟩ := st
        have hix : i < x.cps.size := Nat.lt_of_lt_of_le hi (Nat.min_le_left ..)
        have hiy : i < its.size := Nat.lt_of_lt_of_le hi (Nat.min_le_right ..)
        have lt : ∀ {c o}, s₁.heap.get? c = some o → s₁.heap.objs.size ≠ c := fun e => Nat.ne_of_gt (Heap.lt_size e)
        have n1 : s₁.heap.objs.size ≠ i1 := let ⟨_, e⟩ := live1 h1; lt e
        have n2 : s₁.heap.objs.size ≠ i2 := let ⟨_, e⟩ := D2.live _ _ h2; lt e
        rcases hz with ⟨hz, a, b, hTO⟩ | ⟨T, f, oT, hz, hT, r1, r2, r3, r4⟩
        · refine wpAny_pyNext_zipD2_item S D1 D2 hz hTI hTO h1 h2 hix hiy fun x1 x2 h' tk y1 y2 a1 a2 a3 a4 a5 a6 hk => ?_
          exact hQ s₁.heap.objs.size _ _ h' tk ⟨y1, y2⟩ (.inl ⟨_, a5, rfl, _, rfl⟩)
            ⟨hk _ _ S.TIz S.TITO S.TIi1 S.TIi2 hTI, a3, a4, .inr ⟨s₁.heap.objs.size, false, _, a1, a5, lt hz, n1, n2, Nat.ne_of_gt hds⟩⟩
            fun c o hc e => hk c o (fun x => hc (by simp [x])) (fun x => hc (by simp [x])) (fun x => hc (by simp [x])) (fun x => hc (by simp [x])) e
        · refine nextH_item S D1 D2 hz hT hTI h1 h2 hix hiy fun x1 x2 h' tk y1 y2 a1 a3 a4 a5 a6 hk => ?_
          exact hQ s₁.heap.objs.size _ _ h' tk ⟨y1, y2⟩ (.inl ⟨_, a5, rfl, _, rfl⟩)
            ⟨hk _ _ S.TIz S.TIi1 S.TIi2 hTI, a3, a4, .inr ⟨T, true, oT, a1, hk _ _ r1 r2 r3 hT, r1, r2, r3, r4⟩⟩
            fun c o hc e => hk c o (fun x => hc (by simp [x])) (fun x => hc (by simp [x])) (fun x => hc (by simp [x])) e
      done := fun s₁ Q₁ E₁ st hQ => by
        obtain ⟨hTI, h1, h2, hz⟩ := st
        have hle1 : min x.cps.size its.size ≤ x.cps.size := Nat.min_le_left ..
        have hle2 : min x.cps.size its.size ≤ its.size := Nat.min_le_right ..
        have hend : min x.cps.size its.size = x.cps.size ∨ min x.cps.size its.size = its.size := by omega
        rcases hz with ⟨hz, a, b, hTO⟩ | ⟨T, f, oT, hz, hT, r1, r2, r3, r4⟩
        · exact wpAny_pyNext_zipD2_end S D1 D2 hz hTI hTO h1 h2 hle1 hle2 hend fun h' tk hk => hQ h' tk fun c o hc e => hk c o (fun x => hc (by simp [x])) (fun x => hc (by simp [x])) (fun x => hc (by simp [x])) (fun x => hc (by simp [x])) e
        · exact nextH_end S D1 D2 hz hT hTI h1 h2 hle1 hle2 hend fun h' tk hk => hQ h' tk fun c o hc e => hk c o (fun x => hc (by simp [x])) (fun x => hc (by simp [x])) (fun x => hc (by simp [x])) e }
def zipKV : List Nat → List V → List (Key × V)
  | c :: cs, v :: vs => (.inr ⟨#[c]⟩, v) :: zipKV cs vs
  | _, _ => []
def zipKU : List Nat → List Value → List (Key × Value)
  | c :: cs, v :: vs => (.inr ⟨#[c]⟩, v) :: zipKU cs vs
  | _, _ => []
theorem zipKU_len : ∀ (cs : List Nat) (us : List Value), (zipKU cs us).length = min cs.length us.length
  | [], _ => by simp [zipKU]
  | _ :: _, [] => by simp [zipKU]
  | c :: cs, u :: us => by simp [zipKU, zipKU_len cs us]
theorem zipKU_at : ∀ (cs : List Nat) (us : List Value) (i c : Nat) (u : Value), cs[i]? = some c → us[i]? = some u → (zipKU cs us)[i]? = some (.inr ⟨#[c]⟩, u)
  | c :: cs, u :: us, 0, c', u', h1, h2 => by simp at h1 h2; subst h1 h2; rfl
  | c :: cs, u :: us, i + 1, c', u', h1, h2 => by
    simp only [List.getElem?_cons_succ] at h1 h2
    simpa [zipKU] using zipKU_at cs us i c' u' h1 h2
  | [], _, _, _, _, h1, _ => by simp at h1
  | _ :: _, [], _, _, _, _, h2 => by simp at h2
theorem zipKV_rel : ∀ (cs : List Nat) {vs : List V} {us : List Value}, Vals vs us → KV (zipKV cs vs) (zipKU cs us)
  | [], _, _, _ => by simp only [zipKV, zipKU]; exact .nil
  | _ :: _, _, _, .nil => .nil
  | c :: cs, _, _, .cons r rs => .cons ⟨rfl, r⟩ (zipKV_rel cs rs)
def putAll (acc : List (Key × V)) (more : List (Key × V)) : List (Key × V) := more.foldl (fun a p => putK a p.1 p.2) acc
theorem merged_rel : ∀ {more : List (Key × V)} {moreU : List (Key × Value)} {acc : List (Key × V)} {accU : List (Key × Value)}, KV more moreU → KV acc accU → KV (putAll acc more) (merged accU moreU)
  | _, _, _, _, .nil, h => h
  | _, _, _, _, .cons (a := (k, v)) (b := (k', u)) r rs, h => by
    obtain ⟨e, ru⟩ := r
    have e : k = k' := e
    subst e
    exact merged_rel (acc := putK _ k v) (accU := stored _ k u) rs (h.put k ru)
def tDz (K : PySem.W.Frag) (ta : TA) : TE := fun σ H Q => ta σ H fun vs H1 => ∃ x a xs, vs = [.str x, .ref a] ∧ SqT K H1 a xs ∧ ∀ p, H1 p = none → Q (.ref p) (upd H1 p (.dK (putAll [] (zipKV x.cps.toList xs))))
theorem pe_dz {X : Cx} {e e2 : Expr} {ta : TA} {p p2 pos pos2 : Pos} (hc : X.calm = true) (hg : Gl X "dict") (hm : X.mg "dict" = none) (hg2 : Gl X "zip") (hm2 : X.mg "zip" = none) (ha : PA X [e, e2] ta)
    (hs : starEach [e, e2] X.env = (false, eval e X.env) :: starEach [e2] X.env) (hpl : (backTo pos2 (starEach [e2] X.env)).any (·.1) = false) :
    PE X (.Call (.Name "dict" p) [.Call (.Name "zip" p2) [e, e2] [] pos2] [] pos) (tDz X.K ta) := by
  refine ⟨fun pins s σ H Q I h => ?_⟩
  refine Call_ (ld_blt I hg hm boot_dict (PyProof.Rows.callWith_type1 ?_ rfl rfl))
  show wpAny _ _ (spliced ((false, eval (.Call (.Name "zip" p2) [e, e2] [] pos2) X.env) :: backTo pos (starEach [] X.env))) _ _ s
  refine Calls.spliced_cons ?_
  refine Call_ (ld_blt I hg2 hm2 PyProof.Rows.boot_zip (PyProof.Rows.callWith_type1 (thn (ha.run pos2 pins s σ H _ I h) fun us s1 ⟨vs, H1, I1, r1, q1⟩ => ?_) hs hpl))
  obtain ⟨x, a, xs, ex, hq, q⟩ := q1
  subst ex
  cases r1 with
  | cons r rr =>
    cases rr with
    | cons r' rr =>
      cases rr
      obtain ⟨t, rfl⟩ := r
      cases r'
      obtain ⟨its, rv, tp, hz⟩ := I1.tuple hq
      have la : a < s1.heap.objs.size := by obtain ⟨_, w, _⟩ := tp; exact Heap.lt_size w
      refine zip_begins2 (begins_text x t) (begins_tuple a its.toArray) trivial tp fun h' z1 hTI hTO h1 h2 hsz hk => ?_
      refine Calls.spliced_nil ?_
      have S : ZipSep2 (s1.heap.objs.size + 4) (s1.heap.objs.size + 2) (s1.heap.objs.size + 3) s1.heap.objs.size (s1.heap.objs.size + 1) [s1.heap.objs.size] [s1.heap.objs.size + 1, a] :=
        zip_sep2 (fp1 := []) (fp2 := [a]) (fun b hb => absurd hb List.not_mem_nil) (fun b hb => by rw [List.mem_singleton.mp hb]; exact la)
      have PA := pair_zip (prog := X.prog) (w := X.w) (x := x) (t := t) (its := its.toArray) S (Nat.ne_of_lt (Nat.lt_succ_of_lt la))
      have hl : its.length = xs.length := rv.length.symm
      refine PySem.call_dict_pairs (s := { s1 with heap := h' }) (knd := mixKind X.prog X.w) (kvs := zipKU x.cps.toList its) PA (I1.ok.hd hc) ⟨z1, hTI, ⟨_, _, hTO⟩, ⟨_, h1, rfl, rfl⟩, ⟨_, h2, rfl, rfl⟩, (show h'.IsTuple a its.toArray from Heap.IsTuple.at tp fun o e => hk _ o e)⟩ ⟨?_, ?_⟩ ?_ fun h'' tk hd hk2 => ?_
      · rw [zipKU_len]; simp
      · rintro i key v ⟨⟨c, u, hc, rfl⟩, hv⟩
        exact ⟨.inr ⟨#[c]⟩, zipKU_at _ _ _ _ _ (by simpa using hc) (by simpa using hv), mixKind_str _ _ _ _⟩
      · have : min x.cps.size its.toArray.size ≤ its.length := by simp; omega
        omega
      · have kp : ∀ b o, s1.heap.get? b = some o → h''.get? b = some o := fun b o e => by
          have lb : b < s1.heap.objs.size := Heap.lt_size e
          refine hk2 b o (fun hm => ?_) (hk b o e)
          simp only [List.mem_cons, List.not_mem_nil, or_false] at hm
          rcases hm with w | w | w | w
          · exact absurd w (Nat.ne_of_lt (Nat.lt_of_lt_of_le lb (Nat.le_add_right _ _)))
          · exact absurd w (Nat.ne_of_lt (Nat.lt_of_lt_of_le lb (Nat.le_add_right _ _)))
          · exact absurd w (Nat.ne_of_lt lb)
          · exact absurd w (Nat.ne_of_lt (Nat.lt_of_lt_of_le lb (Nat.le_add_right _ _)))
        have hfr : s1.heap.objs.size ≤ h'.objs.size := by rw [hsz]; exact Nat.le_add_right _ _
        have rel := merged_rel (acc := []) (accU := []) (zipKV_rel x.cps.toList rv) .nil
        have ln : (putAll [] (zipKV x.cps.toList xs)).length ≤ sizeLine := by
          have h3 := rel.length
          have h4 := merged_length ([] : List (Key × Value)) (zipKU x.cps.toList its)
          have h5 := zipKU_len x.cps.toList its
          simp only [List.length_nil, Nat.zero_add] at h4
          omega
        exact ⟨.ref h'.objs.size, _, I1.laid (a := h'.objs.size) (o := .dK (putAll [] (zipKV x.cps.toList xs))) (t' := tk) kp hfr ⟨ln, beq_false_of_ne (Nat.ne_of_gt (Nat.lt_of_lt_of_le I1.big hfr)), _, rel, hd⟩, rfl, q _ (I1.hok.fresh hfr)⟩
end VI

/-! VI, part Fg: defs that are called where no repr is under way. -/
namespace VI
open PySem PySem.Spec L2 PyProof.Rows
/-- the promise of a def, where no repr is under way -/
structure FnG (P : Program) (w : World) (K : PySem.W.Frag) (mg : Str → Option Value) (base : Heap) (k : Nat) (f : Addr) (fd : FuncData) (ps : List Str) (sp : Sp) : Prop where
  size : ∀ vs H Q E, sp vs H Q E → vs.length = ps.length
  goes : ∀ (A : Around), A.guards = some [] → Room k A → ∀ (l : List Env) (s : Shared) (H : Hp), Env0 P w K mg base A l s H → ∀ (args : Args) (us : List Value) (vs : List V) (Q : VK) (E : XK),
    BindsTo s fd args (ps.zip us) → Vals vs us → sp vs H Q E → codeAny (model P w) A (.call (.ref f) args) (CR CX0 l P w H s Q E) s
section
variable {X : Cx} {k : Nat} {f : Addr} {fd : FuncData} {ps : List Str} {sp : Sp}
theorem go_g {pins : List (Addr × Obj)} {σ : L2.St} {H : Hp} {s : Shared} {Q : VK} {E : XK} {us : List Value} {vs : List V} (F : FnG X.prog X.w X.K X.mg X.base k f fd ps sp) (gd : X.A.guards = some []) (hr : Room k X.A) (hb : Binds X.K fd ps []) (I : Inv X pins σ H s) (rv : Vals vs us) (q : sp vs H Q E) :
    wpAny (model X.prog X.w) X.A (call (.ref f) us) (EP X pins σ Q) X.xe s := by
  have hl : us.length = ps.length := rv.length.symm.trans (F.size _ _ _ _ q)
  have bt := hb s us I.kIn (by simpa using hl)
  rw [List.append_nil] at bt
  refine wpAny_call (codeAny_mono (F.goes X.A gd hr X.stack s H I.env0 ⟨us, []⟩ us vs Q E bt rv q) fun r s' z => ?_)
  match r, z with
  | .error e, z => exact z.elim
  | .ok (.ret u), z => exact I.after z
  | .ok .next, z => exact z.elim
  | .ok .brk, z => exact z.elim
  | .ok .cont, z => exact z.elim
/-- f(e, ..) -/
theorem pe_callG {x : Str} {p pos : Pos} {e : Expr} {es : List Expr} {t : TA} {E : XK} (F : FnG X.prog X.w X.K X.mg X.base k f fd ps sp) (gd : X.A.guards = some []) (hr : Room k X.A) (gx : Gl X x) (mx : X.mg x = some (.ref f)) (kf : PySem.W.keepIn X.K (.ref f) = true) (hb : Binds X.K fd ps [])
    (A : PA X (e :: es) t) (nd : (x == ("__debug__" : Str)) = false) (st : starEach (e :: es) X.env = (false, eval e X.env) :: starEach es X.env) (sa : (backTo pos (starEach es X.env)).any (·.1) = false) : PE X (.Call (.Name x p) (e :: es) [] pos) (tCall sp [] E t) :=
  ⟨fun pins s σ H Q I q => wpAny_Call_Name_kw (ld_glob I gx mx (PySem.W.callWith_K (h₀ := X.base) I.ok.mod.kin kf (thn (A.run pos pins s σ H _ I q) fun us s1 ⟨vs, H1, I1, rv, q1⟩ => ⟨I1.kIn, go_g F gd hr hb I1 rv (by
    have q1 : sp (vs ++ []) H1 Q E := q1
    rw [List.append_nil] at q1; exact q1)⟩) st sa) nd)⟩
end
/-- a def by its body -/
theorem g_of {P : Program} {w : World} {K : PySem.W.Frag} {mg : Str → Option Value} {base : Heap} {x qual : Str} {params : Arguments} {body : List Stmt} {scope : Scope} {dvs : List V} {kws : List (Str × V)} {f : Addr} {fd : FuncData} {N ps : List Str} {k : Nat} {sp : Sp}
    (D : FunD K x qual params body scope dvs kws f fd) (S : FnScope N ps scope) (hz : ∀ vs H Q E, sp vs H Q E → vs.length = ps.length)
    (hb : ∀ (cd : Value) (A : Around) (l : List Env) (s : Shared) (H : Hp) (vs : List V) (Q : VK) (E : XK), A.guards = some [] → Room k (A.deeper (envOfC qual scope s.heap.objs.size f cd)) → sp vs H Q E →
      ∃ t, PSs (cxOf CX0 P w K mg base N qual scope f cd A l s H E) body t ∧ t ⟨fun _ H' => Q .non H', Q, fun _ _ => False, fun _ _ => False⟩ (L2.start N vs) H) : FnG P w K mg base (k + 1) f fd ps sp := by
  obtain ⟨oc, od, dV, kV, doc, pm, an, cd, ct, osl, rfl, lk, cdk, _, _⟩ := D.ex
  refine ⟨hz, fun A gd room l s H e0 args us vs Q E bt rv q => ?_⟩
  have keep : ∀ b o, base.get? b = some o → s.heap.get? b = some o := fun b o z => (e0.bs b o z).1
  have kin := e0.mod.kin.keeps keep
  have kinds : ∀ y ∈ ps.zip us, scope.names.lookup y.1 = some .local ∨ (scope.names.lookup y.1 = some .cell ∧ ((cellsFrom (s.heap.objs.size + 1) scope.names []).lookup y.1).isSome = true) := fun y hy =>
    (S.par y.1 (List.of_mem_zip (a := y.1) (b := y.2) hy).1).imp id fun z => ⟨z, PySem.W.cellsFrom_some _ _ _ (.inl z)⟩
  refine codeAny_call_function room.depth (kin _ _ lk) rfl S.co S.gen rfl (PySem.W.codeRec_of kin cdk) (bt _ _ _ _ (wpAny_newFunctionEnv_cells S.kind kinds fun env ee s1 ic => ?_))
  cases ee
  refine ⟨(e0.mod.nolimit.keeps keep).keeps ic.toInCall.keep, codeAny_func ?_⟩
  obtain ⟨t, pt, qt⟩ := hb cd A l s H vs Q E gd (room.deeper _) q
  have I := inv_start (CX := CX0) (mg := mg) (E := E) S room.hd e0 (hz _ _ _ _ q) rv ic
  refine wpAny_mono (pt.run [] s1 _ H _ I qt) (fun fl s' z => ?_) fun _ _ z => z
  match fl, z with
  | .ret u, ⟨v, σ', H', J, r, qv⟩ => exact ⟨v, H', J.os, J.bare, J.base, J.hok, r, qv⟩
  | .next, ⟨σ', H', J, qv⟩ => exact ⟨.non, H', J.os, J.bare, J.base, J.hok, rfl, qv⟩
  | .brk, ⟨_, _, _, z⟩ => exact z.elim
  | .cont, ⟨_, _, _, z⟩ => exact z.elim
end VI

/-! VI, part F: where code runs; targets; walks. -/
namespace VI
open PySem L2 PyProof.Rows
structure Tx where
  N : List Str
  sc : Scope
  fnB : Str → Bool
  /-- no repr is under way -/
  g : Bool
def Tx.blk (T : Tx) (scope : Scope) : Tx := ⟨T.N, relS scope T.sc, fun x => scope.names.lookup x == some .cell, T.g⟩
structure Gm where
  nms : List Str
  pss : List (List Str)
  kwo : List Nat
  con : List Str
  cls : List Str
  fields : List (Nat × Nat)
  fnames : List Str
  free : List Str
  /-- calls with keywords: def, number of values without a name, names, order -/
  kwc : List (Nat × Nat × List Str × List Nat)
  /-- defs in which repr is asked -/
  grd : List Nat := []
/-- a field's name -/
def Gm.fn (G : Gm) (i : Nat) : Str := (G.fnames[i]?).getD ⟨#[2000000 + i]⟩
/-- what the top has left -/
structure Fac (P : Pg) (G : Gm) (nm : Nm) (K : PySem.W.Frag) (mg : Str → Option Value) (ad : Nat → Addr) (fdo : Nat → FuncData) : Prop where
  glob : ∀ (f : Nat) (d : DefI) (x : Str), P.defs[f]? = some d → G.nms[f]? = some x → d.kind = .glob → mg x = some (.ref (ad f)) ∧ PySem.W.keepIn K (.ref (ad f)) = true
  meth : ∀ (f : Nat) (d : DefI) (x : Str) (c : Nat), P.defs[f]? = some d → G.nms[f]? = some x → d.kind = .meth → d.cls = some c → Meth K (nm.ca c) x (ad f) ∧ Cls K (nm.ca c) ∧ ∀ i, nm.fn i ≠ x
  prop : ∀ (f : Nat) (d : DefI) (x : Str) (c : Nat), P.defs[f]? = some d → G.nms[f]? = some x → d.kind = .prop → d.cls = some c → Cls K (nm.ca c) ∧ ∃ p, PropOf K (nm.ca c) x p (ad f)
  stat : ∀ (f : Nat) (d : DefI) (x : Str) (c : Nat) (y : Str), P.defs[f]? = some d → G.nms[f]? = some x → d.kind = .stat → d.cls = some c → G.cls[c]? = some y → (∃ mc p, SMet K (nm.ca c) mc x p (ad f)) ∧ mg y = some (.ref (nm.ca c))
  kwb : ∀ (f : Nat) (ps : List Str) (m : Nat) (ks : List Str) (perm : List Nat), (f, m, ks, perm) ∈ G.kwc → G.pss[f]? = some ps → KBn K (fdo f) ps m ks (permL perm) (permL perm)
  init : ∀ (f : Nat) (d : DefI) (c : Nat) (y : Str), P.defs[f]? = some d → d.kind = .init → d.cls = some c → G.cls[c]? = some y → Mk K (nm.ca c) (ad f) ∧ mg y = some (.ref (nm.ca c))
  bind : ∀ (f : Nat) (ps : List Str), G.pss[f]? = some ps → G.kwo.contains f = false → Binds K (fdo f) ps []
  fld : ∀ (c f : Nat), (c, f) ∈ G.fields → Cls K (nm.ca c) ∧ NoAttr K (nm.ca c) (nm.fn f)
  fnm : ∀ i, nm.fn i = G.fn i
  plen : ∀ (f : Nat) (d : DefI) (ps : List Str), P.defs[f]? = some d → G.pss[f]? = some ps → ps.length = d.npar
  free : ∀ (x : Str), x ∈ G.free → mg x = none
  con : ∀ (g : Nat) (x : Str) (d : D), G.con[g]? = some x → P.consts[g]? = some d → ∃ u v, mg x = some u ∧ RelV v u ∧ ∀ vw, Rep K vw v d
/-- a def's promise: what the interpreter gives -/
def spI (K : PySem.W.Frag) (nm : Nm) (P : Pg) (n f : Nat) : Sp := fun vs H Q _ => ∃ vw h ds d h', SR K nm vw H h ∧ Reps K vw vs ds ∧ run P n f ds h = some (d, h') ∧
  ∀ vw' H' v, Stp vw H vw' H' → SR K nm vw' H' h' → Rep K vw' v d → Q v H'
structure Sit (P : Pg) (G : Gm) (nm : Nm) (ad : Nat → Addr) (fdo : Nat → FuncData) (n : Nat) (X : Cx) (T : Tx) : Prop where
  sc : X.env.scope = T.sc
  N : X.N = T.N
  nd : T.N.Nodup
  fn : X.fn = T.fnB
  calm : X.calm = true
  xe : X.xe = fun _ _ => False
  room : Room (2 * n + 1) X.A
  fac : Fac P G nm X.K X.mg ad fdo
  fns : ∀ (f : Nat) (d : DefI) (ps : List Str), P.defs[f]? = some d → G.pss[f]? = some ps → G.grd.contains f = false → FnOk X.prog X.w X.K X.mg X.base CX0 (2 * n) (ad f) (fdo f) ps (spI X.K nm P n f)
  gd : T.g = true → X.A.guards = some []
  fng : ∀ (f : Nat) (d : DefI) (ps : List Str), P.defs[f]? = some d → G.pss[f]? = some ps → G.grd.contains f = true → FnG X.prog X.w X.K X.mg X.base (2 * n) (ad f) (fdo f) ps (spI X.K nm P n f)
section
variable {P : Pg} {G : Gm} {nm : Nm} {ad : Nat → Addr} {fdo : Nat → FuncData} {n : Nat} {X : Cx} {T : Tx}
theorem Sit.blk (S : Sit P G nm ad fdo n X T) (s : Shared) (H : Hp) (C : Addr) (cl : List (Str × Addr)) (fp : List Addr) (scope : Scope) : Sit P G nm ad fdo n (X.blk s H scope (compEnvC scope cl C X.env) fp) (T.blk scope) :=
  ⟨by show relS scope X.env.scope = relS scope T.sc; rw [S.sc], S.N, S.nd, rfl, S.calm, rfl, S.room, S.fac, S.fns, S.gd, S.fng⟩
theorem Sit.gl (S : Sit P G nm ad fdo n X T) {x : Str} (h : glb T.sc x = true) : Gl X x := by
  show X.env.scope.names.lookup x = some .globalImplicit
  rw [S.sc]; exact glb_ok h
theorem Sit.pass (S : Sit P G nm ad fdo n X T) : PassesOwn (model X.prog X.w) X.A X.env X.xe := by rw [S.xe]; exact PassesOwn.never
theorem Sit.hu (S : Sit P G nm ad fdo n X T) : X.A.units + 65 < cLine := by have := S.room.un; omega
end
/-! ### targets -/
def gsOf : List Nat → TGs
  | [] => gNil
  | i :: is => gCons (gName i) (gsOf is)
def gOf (K : PySem.W.Frag) : Tg → TG
  | .nm i => gName i
  | .tp is => gTup K is.length (gsOf is)
def Tg.slots : Tg → List Nat
  | .nm i => [i]
  | .tp is => is
def slotOk (T : Tx) (i : Nat) (x : Str) : Bool := decide (T.N[i]? = some x) && (lcl T.sc x || (cll T.sc x && T.fnB x))
def namesOk (T : Tx) : List Nat → List Expr → Bool
  | [], [] => true
  | i :: is, .Name x _ :: es => slotOk T i x && namesOk T is es
  | _, _ => false
def chkG (T : Tx) : Tg → Expr → Bool
  | .nm i, .Name x _ => slotOk T i x
  | .tp is, .Tuple es _ _ => namesOk T is es
  | _, _ => false
section
variable {P : Pg} {G : Gm} {nm : Nm} {ad : Nat → Addr} {fdo : Nat → FuncData} {n : Nat} {X : Cx} {T : Tx}
theorem pg_slot (S : Sit P G nm ad fdo n X T) {i : Nat} {x : Str} {p : Pos} (h : slotOk T i x = true) : PG X (.Name x p) (gName i) := by
  unfold slotOk at h
  simp only [Bool.and_eq_true, Bool.or_eq_true, decide_eq_true_eq] at h
  obtain ⟨h1, h2⟩ := h
  refine pg_name (by rw [S.N]; exact S.nd) (by rw [S.N]; exact h1) ?_ ?_
  · rw [S.sc]
    rcases h2 with q | q
    · exact .inl (lcl_ok q)
    · exact .inr (cll_ok q.1)
  · rw [S.sc, S.fn]
    rcases h2 with q | q
    · exact .inr (lcl_ok q)
    · exact .inl q.2
theorem pgs_slots (S : Sit P G nm ad fdo n X T) : ∀ {is : List Nat} {es : List Expr}, namesOk T is es = true → PGs X es (gsOf is) ∧ es.length = is.length ∧ es.all nst = true
  | [], [], _ => ⟨pgs_nil, rfl, rfl⟩
  | i :: is, .Name x p :: es, h => by
    have h := Bool.and_eq_true_iff.mp (show (slotOk T i x && namesOk T is es) = true from h)
    obtain ⟨a, b, c⟩ := pgs_slots S h.2
    exact ⟨pgs_cons (pg_slot S h.1) a rfl, by simp [b], by simpa [nst] using c⟩
theorem chkG_ok (S : Sit P G nm ad fdo n X T) {tg : Tg} {e : Expr} (h : chkG T tg e = true) : PG X e (gOf X.K tg) := by
  cases tg with
  | nm i =>
    cases e <;> simp only [chkG, Bool.false_eq_true] at h
    exact pg_slot S h
  | tp is =>
    cases e <;> simp only [chkG, Bool.false_eq_true] at h
    obtain ⟨a, b, c⟩ := pgs_slots S h
    exact pg_tup S.calm a (by rw [each_len, b]) (each_none c _)
theorem wipe_set {σ : L2.St} {i : Nat} {x : Option V} : ∀ {is : List Nat}, i ∈ is → wipe (σ.set i x) is = wipe σ is
  | j :: is, h => by
    by_cases hi : i ∈ is
    · show (wipe (σ.set i x) is).set j none = (wipe σ is).set j none
      rw [wipe_set hi]
    · have e : i = j := by
        rcases List.mem_cons.mp h with q | q
        · exact q
        · exact absurd q hi
      subst e
      show (wipe (σ.set i x) is).set i none = (wipe σ is).set i none
      have : ∀ (is : List Nat) (σ : L2.St), i ∉ is → wipe (σ.set i x) is = (wipe σ is).set i x := by
        intro is
        induction is with
        | nil => intro σ _; rfl
        | cons k is ih =>
          intro σ hk
          simp only [List.mem_cons, not_or] at hk
          show (wipe (σ.set i x) is).set k none = ((wipe σ is).set k none).set i x
          rw [ih σ hk.2, List.set_comm _ _ hk.1]
      rw [this is σ hi, List.set_set]
theorem wipe_idem (σ : L2.St) : ∀ is : List Nat, wipe (wipe σ is) is = wipe σ is
  | [] => rfl
  | i :: is => by
    show (wipe ((wipe σ is).set i none) is).set i none = (wipe σ is).set i none
    by_cases h : i ∈ is
    · rw [wipe_set h, wipe_idem σ is]
    · have h2 : wipe ((wipe σ is).set i none) (i :: is) = wipe (wipe σ is) (i :: is) := wipe_set List.mem_cons_self
      have h3 : (wipe ((wipe σ is).set i none) is).set i none = (wipe (wipe σ is) is).set i none := h2
      rw [h3, wipe_idem σ is]
theorem puts_ok {K : PySem.W.Frag} {vw : Vw} {H : Hp} : ∀ {is : List Nat} {ds : List D} {vs : List V} {σ : L2.St} {δ δ' : Ev} {Q : L2.St → Hp → Prop}, Reps K vw vs ds → EnvR K vw σ δ → setAll δ is ds = some δ' →
    (∀ σ', EnvR K vw σ' δ' → (∀ ws : List Nat, (∀ i ∈ is, i ∈ ws) → wipe σ' ws = wipe σ ws) → Q σ' H) → gsOf is vs σ H Q
  | [], [], _, σ, δ, δ', Q, .nil, e, h, k => by
    have h := Option.some.inj h
    subst h
    exact ⟨rfl, k σ e fun _ _ => rfl⟩
  | i :: is, d :: ds, _, σ, δ, δ', Q, .cons r rs, e, h, k => by
    refine ⟨_, _, rfl, ?_⟩
    exact puts_ok (is := is) rs (e.set r) h fun σ' e' w => k σ' e' fun ws hw => by
      rw [w ws fun j hj => hw j (List.mem_cons_of_mem _ hj), wipe_set (hw i List.mem_cons_self)]
  | [], _ :: _, _, _, _, _, _, _, _, h, _ => by cases h
  | _ :: _, [], _, _, _, _, _, _, _, h, _ => by cases h
theorem setAll_len : ∀ {is : List Nat} {ds : List D} {δ δ' : Ev}, setAll δ is ds = some δ' → ds.length = is.length
  | [], [], _, _, _ => rfl
  | i :: is, d :: ds, δ, δ', h => by simp [setAll_len (show setAll (δ.set i (some d)) is ds = some δ' from h)]
  | [], _ :: _, _, _, h => by cases h
  | _ :: _, [], _, _, h => by cases h
theorem put_ok {K : PySem.W.Frag} {vw : Vw} {H : Hp} {h : Hh} {tg : Tg} {d : D} {v : V} {σ : L2.St} {δ δ' : Ev} {Q : L2.St → Hp → Prop} (sr : SR K nm vw H h) (r : Rep K vw v d) (e : EnvR K vw σ δ) (hp : put tg d δ = some δ')
    (k : ∀ σ', EnvR K vw σ' δ' → (∀ ws : List Nat, (∀ i ∈ tg.slots, i ∈ ws) → wipe σ' ws = wipe σ ws) → Q σ' H) : gOf K tg v σ H Q := by
  cases tg with
  | nm i =>
    have hp := Option.some.inj hp
    subst hp
    exact k _ (e.set r) fun ws hw => wipe_set (hw i List.mem_cons_self)
  | tp is =>
    cases r with
    | tup ht hr =>
      have hp : setAll δ is _ = some δ' := hp
      exact ⟨_, _, rfl, sr.ex.sqT ht, by rw [hr.length, setAll_len hp], puts_ok hr e hp k⟩
    | _ => cases hp
end
/-! ### walks -/
def WY (K : PySem.W.Frag) (nm : Nm) (xs : List D) (vw : Vw) : Nat → Hp → V → Hp → Prop := fun i H x H' => ∀ vw1 h1, vw.Le vw1 → SR K nm vw1 H h1 → ∃ vw2 d, Stp vw1 H vw2 H' ∧ SR K nm vw2 H' h1 ∧ xs[i]? = some d ∧ Rep K vw2 x d
def WD (K : PySem.W.Frag) (nm : Nm) (J : L2.It) (xs : List D) (vw : Vw) : Prop := Walk J xs.length (fun H => Ex vw.F H) (WY K nm xs vw)
def RdI (K : PySem.W.Frag) (nm : Nm) (g : Ev → Hh → Option (List D × Hh)) : TI := fun σ H R => ∃ vw h δ xs h', SR K nm vw H h ∧ EnvR K vw σ δ ∧ g δ h = some (xs, h') ∧
  ∀ vw' H' J, Stp vw H vw' H' → SR K nm vw' H' h' → WD K nm J xs vw' → R J H'
theorem PI.by {X : Cx} {tg it : Expr} {t : TI} (h : ∀ σ H R, t σ H R → ∃ r, PI X tg it r ∧ r σ H R) : PI X tg it t := ⟨fun pins s σ H R I q => by
  obtain ⟨r, hr, q⟩ := h σ H R q
  exact hr.run pins s σ H R I q⟩
section
variable {K : PySem.W.Frag} {nm : Nm} {vw : Vw}
theorem wy_at {xs : List V} {ds : List D} (r : Reps K vw xs ds) {i : Nat} {H H' : Hp} {x : V} (y : YAt xs i H x H') : WY K nm ds vw i H x H' := fun vw1 h1 le sr => by
  obtain ⟨e, hx⟩ := y
  subst e
  obtain ⟨d, h2, h3⟩ := r.atV hx
  exact ⟨vw1, d, Stp.rfl, sr, h2, h3.mono le⟩
theorem wd_list {a : Addr} {xs : List V} {ds : List D} (h : SqL K vw.F a xs) (r : Reps K vw xs ds) : WD K nm (Itl K a) ds vw := by
  have w : Walk (Itl K a) xs.length (fun H => SqL K H a xs) (YAt xs) := walk_list
  unfold WD
  rw [← r.length]
  exact w.mono (fun H e => e.sqL h) fun i H x H' _ _ y => wy_at r y
theorem wd_tup {a : Addr} {xs : List V} {ds : List D} (h : SqT K vw.F a xs) (r : Reps K vw xs ds) : WD K nm (Itt K a) ds vw := by
  have w : Walk (Itt K a) xs.length (fun H => SqT K H a xs) (YAt xs) := walk_tup
  unfold WD
  rw [← r.length]
  exact w.mono (fun H e => e.sqT h) fun i H x H' _ _ y => wy_at r y
theorem wd_str (s : List Nat) : WD K nm (Its (toS s)) (s.map fun c => D.str [c]) vw := by
  have w : Walk (Its (toS s)) (toS s).cps.size (fun _ => True) (fun i H v H' => H' = H ∧ ∃ c, (toS s).cps[i]? = some c ∧ v = .str ⟨#[c]⟩) := walk_str
  unfold WD
  have e : (s.map fun c => D.str [c]).length = (toS s).cps.size := by simp [toS]
  rw [e]
  refine w.mono (fun H _ => trivial) fun i H x H' _ _ y vw1 h1 le sr => ?_
  obtain ⟨e1, c, hc, e2⟩ := y
  subst e1 e2
  refine ⟨vw1, .str [c], Stp.rfl, sr, ?_, .str [c]⟩
  have hc : s[i]? = some c := by simpa [toS] using hc
  simp [hc]
theorem wd_range (lo hi : Int) : WD K nm (Itr lo (hi - lo).toNat) (rangeL lo hi) vw := by
  have w : Walk (Itr lo (hi - lo).toNat) (hi - lo).toNat (fun _ => True) (YFn fun i => .int (lo + i)) := walk_range
  unfold WD
  have e : (rangeL lo hi).length = (hi - lo).toNat := by simp [rangeL]
  rw [e]
  refine w.mono (fun H _ => trivial) fun i H x H' hi _ y vw1 h1 le sr => ?_
  obtain ⟨e1, e2⟩ := y
  subst e1 e2
  refine ⟨vw1, .int (lo + i), Stp.rfl, sr, ?_, .int _⟩
  simp [rangeL, hi]
end
end VI

/-! VI, part G: expressions. -/
namespace VI
open PySem L2 PyProof.Rows
def biName : Bi → Str
  | .len => "len" | .abs => "abs" | .int => "int" | .all => "all" | .any => "any" | .min => "min" | .max => "max" | .tuple => "tuple" | .list => "list" | .sum => "sum" | .dict => "dict" | .str => "str"
theorem boot_bi (b : Bi) : bootBuiltins (biName b) = some (biVal b) := by cases b <;> decide +kernel
theorem biName_dbg (b : Bi) : biName b ≠ "__name__" ∧ (biName b == ("__debug__" : Str)) = false := by cases b <;> decide +kernel
def tyStr : Ty → Str
  | .int => "int" | .bool => "bool" | .str => "str" | .tuple => "tuple" | .list => "list" | .dict => "dict" | .none => "NoneType" | .cls _ => "object"
def isTyB : Ty → Bool
  | .int | .bool | .str | .tuple | .list | .dict => true
  | _ => false
theorem boot_ty (t : Ty) (h : isTyB t = true) : bootBuiltins (tyStr t) = some (.type (tyName t)) := by cases t <;> first | decide +kernel | cases h
theorem tyStr_dbg (t : Ty) (h : isTyB t = true) : tyStr t ≠ "__name__" ∧ (tyStr t == ("__debug__" : Str)) = false := by cases t <;> first | decide +kernel | cases h
def gfree (G : Gm) (T : Tx) (x : Str) : Bool := glb T.sc x && decide (x ∈ G.free)
def defIs (P : Pg) (G : Gm) (f : Nat) (k : Kind) (x : Str) : Bool := match P.defs[f]?, G.nms[f]?, G.pss[f]? with
  | some d, some y, some _ => decide (d.kind = k) && sEq y x && !G.kwo.contains f
  | _, _, _ => false
/-- no repr is asked in it -/
def ngr (G : Gm) (f : Nat) : Bool := !G.grd.contains f
theorem ngr_ok {G : Gm} {f : Nat} (h : ngr G f = true) : G.grd.contains f = false := by simpa [ngr] using h
theorem defIs_ok {P : Pg} {G : Gm} {f : Nat} {k : Kind} {x : Str} (h : defIs P G f k x = true) : ∃ d ps, P.defs[f]? = some d ∧ G.nms[f]? = some x ∧ G.pss[f]? = some ps ∧ d.kind = k ∧ G.kwo.contains f = false := by
  unfold defIs at h
  split at h
  · rename_i d y ps h1 h2 h3
    simp only [Bool.and_eq_true, decide_eq_true_eq, Bool.not_eq_true'] at h
    have e := sEq_ok h.1.2
    subst e
    exact ⟨d, ps, h1, h2, h3, h.1.1, h.2⟩
  · cases h
/-- the class of a def that makes instances -/
def mkIs (P : Pg) (G : Gm) (f : Nat) (x : Str) : Bool := match P.defs[f]?, G.pss[f]? with
  | some d, some _ => decide (d.kind = .init) && !G.kwo.contains f && (match d.cls with
    | some c => (match G.cls[c]? with
      | some y => sEq y x
      | none => false)
    | none => false)
  | _, _ => false
theorem mkIs_ok {P : Pg} {G : Gm} {f : Nat} {x : Str} (h : mkIs P G f x = true) : ∃ d ps c, P.defs[f]? = some d ∧ G.pss[f]? = some ps ∧ d.kind = .init ∧ G.kwo.contains f = false ∧ d.cls = some c ∧ G.cls[c]? = some x := by
  unfold mkIs at h
  split at h
  · rename_i d ps h1 h2
    simp only [Bool.and_eq_true, decide_eq_true_eq, Bool.not_eq_true'] at h
    obtain ⟨⟨h3, h4⟩, h5⟩ := h
    split at h5
    · rename_i c hc
      split at h5
      · rename_i y hy
        have e := sEq_ok h5
        subst e
        exact ⟨d, ps, c, h1, h2, h3, h4, hc, hy⟩
      · cases h5
    · cases h5
  · cases h
/-- a static method m of the class y -/
def stIs (P : Pg) (G : Gm) (f : Nat) (y m : Str) : Bool := match P.defs[f]?, G.nms[f]?, G.pss[f]? with
  | some d, some x, some _ => decide (d.kind = .stat) && sEq x m && (match d.cls with
    | some c => (match G.cls[c]? with
      | some z => sEq z y
      | none => false)
    | none => false)
  | _, _, _ => false
theorem stIs_ok {P : Pg} {G : Gm} {f : Nat} {y m : Str} (h : stIs P G f y m = true) : ∃ d ps c, P.defs[f]? = some d ∧ G.nms[f]? = some m ∧ G.pss[f]? = some ps ∧ d.kind = .stat ∧ d.cls = some c ∧ G.cls[c]? = some y := by
  unfold stIs at h
  split at h
  · rename_i d x ps h1 h2 h3
    simp only [Bool.and_eq_true, decide_eq_true_eq] at h
    obtain ⟨⟨h4, h5⟩, h6⟩ := h
    have e := sEq_ok h5
    subst e
    split at h6
    · rename_i c hc
      split at h6
      · rename_i z hz
        have e := sEq_ok h6
        subst e
        exact ⟨d, ps, c, h1, h2, h3, h4, hc, hz⟩
      · cases h6
    · cases h6
  · cases h
def mkIsK (P : Pg) (G : Gm) (f : Nat) (x : Str) : Bool := match P.defs[f]?, G.pss[f]? with
  | some d, some _ => decide (d.kind = .init) && (match d.cls with
    | some c => (match G.cls[c]? with
      | some y => sEq y x
      | none => false)
    | none => false)
  | _, _ => false
theorem mkIsK_ok {P : Pg} {G : Gm} {f : Nat} {x : Str} (h : mkIsK P G f x = true) : ∃ d ps c, P.defs[f]? = some d ∧ G.pss[f]? = some ps ∧ d.kind = .init ∧ d.cls = some c ∧ G.cls[c]? = some x := by
  unfold mkIsK at h
  split at h
  · rename_i d ps h1 h2
    simp only [Bool.and_eq_true, decide_eq_true_eq] at h
    obtain ⟨h3, h5⟩ := h
    split at h5
    · rename_i c hc
      split at h5
      · rename_i y hy
        have e := sEq_ok h5
        subst e
        exact ⟨d, ps, c, h1, h2, h3, hc, hy⟩
      · cases h5
    · cases h5
  · cases h
def kwIs (G : Gm) (f m : Nat) (ks : List Str) (perm : List Nat) : Bool := decide ((f, m, ks, perm) ∈ G.kwc)
def ncons (es : List Expr) : Bool := match es with
  | [] => false
  | _ :: _ => true
def hasOp (neg : Bool) (o : CmpOp) : Bool := match o with
  | .In => !neg
  | .NotIn => neg
  | _ => false
theorem hasOp_ok {neg : Bool} {o : CmpOp} (h : hasOp neg o = true) : o = if neg then .NotIn else .In := by
  cases o <;> simp [hasOp] at h <;> simp [h]
def dzArgs : List Expr → Option (Str × Expr × Expr)
  | [.Call (.Name y _) [a', b'] [] _] => some (y, a', b')
  | _ => none
theorem dzArgs_ok {es : List Expr} {y : Str} {a b : Expr} (h : dzArgs es = some (y, a, b)) : ∃ p q, es = [.Call (.Name y p) [a, b] [] q] := by
  unfold dzArgs at h
  split at h
  · simp only [Option.some.injEq, Prod.mk.injEq] at h
    obtain ⟨rfl, rfl, rfl⟩ := h
    exact ⟨_, _, rfl⟩
  · cases h
def isTupE : Expr → Bool
  | .Tuple .. => true
  | _ => false
def ownP (N : List Str) (own : List Nat) : List (Str × Nat) := own.filterMap fun i => (N[i]?).map fun x => (x, i)
def isC0 : E → Bool
  | .cst (.bl true) => true
  | _ => false
theorem isC0_ok {c : E} (h : isC0 c = true) : c = .cst (.bl true) := by
  unfold isC0 at h
  split at h
  · rfl
  · cases h
/-- keys and values in turn -/
def ilv : List (Option Expr) → List Expr → List Expr
  | some k :: ks, v :: vs => k :: v :: ilv ks vs
  | _, _ => []
def rngArgs : Expr → Option (Str × Expr × Expr)
  | .Call (.Name y _) [a', b'] [] _ => some (y, a', b')
  | _ => none
theorem rngArgs_ok {e : Expr} {y : Str} {a b : Expr} (h : rngArgs e = some (y, a, b)) : ∃ p q, e = .Call (.Name y p) [a, b] [] q := by
  unfold rngArgs at h
  split at h
  · simp only [Option.some.injEq, Prod.mk.injEq] at h
    obtain ⟨rfl, rfl, rfl⟩ := h
    exact ⟨_, _, rfl⟩
  · cases h
/-- -1 as it is written -/
def isM1 : Expr → Bool
  | .UnaryOp .USub (.Constant (.int i) _ _) _ => decide (i = 1)
  | _ => false
theorem isM1_ok {e : Expr} (h : isM1 e = true) : ∃ k p q, e = .UnaryOp .USub (.Constant (.int 1) k p) q := by
  unfold isM1 at h
  split at h
  · have h := of_decide_eq_true h
    subst h
    exact ⟨_, _, _, rfl⟩
  · cases h
def eqOp (neg : Bool) (o : CmpOp) : Bool := match o with
  | .Eq => !neg
  | .NotEq => neg
  | _ => false
theorem eqOp_ok {neg : Bool} {o : CmpOp} (h : eqOp neg o = true) : o = if neg then .NotEq else .Eq := by
  cases o <;> simp [eqOp] at h <;> simp [h]
def repArg : Expr → Option (Str × Expr)
  | .Call (.Name y _) [a'] [] _ => some (y, a')
  | _ => none
theorem repArg_ok {e : Expr} {y : Str} {a : Expr} (h : repArg e = some (y, a)) : ∃ p q, e = .Call (.Name y p) [a] [] q := by
  unfold repArg at h
  split at h
  · simp only [Option.some.injEq, Prod.mk.injEq] at h
    obtain ⟨rfl, rfl⟩ := h
    exact ⟨_, _, rfl⟩
  · cases h
mutual
def chk (P : Pg) (G : Gm) (T : Tx) : E → Expr → Bool
  | .var i, .Name x _ => decide (T.N[i]? = some x) && vis T.sc x && nDbg x
  | .cst d, .Constant c _ _ => cstOk d c
  | .glo g, .Name x _ => decide (G.con[g]? = some x) && glb T.sc x && nDbg x
  | .bin o a b, .BinOp a' op b' _ => opOk o op && chk P G T a a' && chk P G T b b'
  | .cmp o a b, .Compare a' [op] [b'] _ => cpOk o op && nset b' && chk P G T a a' && chk P G T b b'
  | .chain o o' a b c, .Compare a' [op, op'] [b', c'] _ => cpOk o op && cpOk o' op' && nset c' && chk P G T a a' && chk P G T b b' && chk P G T c c'
  | .neg a, .UnaryOp .USub a' _ => chk P G T a a'
  | .notV a, .UnaryOp .Not a' _ => nif a' && chk P G T a a'
  | .andV a b, .BoolOp .And (a' :: b' :: r) pos => nif a' && nif b' && chk P G T a a' && (match r with
    | [] => chk P G T b b'
    | c' :: r' => chk P G T b (.BoolOp .And (b' :: c' :: r') pos))
  | .orV a b, .BoolOp .Or (a' :: b' :: r) pos => nif a' && nif b' && chk P G T a a' && (match r with
    | [] => chk P G T b b'
    | c' :: r' => chk P G T b (.BoolOp .Or (b' :: c' :: r') pos))
  | .ite t a b, .IfExp t' a' b' _ => nif t' && chk P G T t t' && chk P G T a a' && chk P G T b b'
  | .tup es, .Tuple es' _ _ => es'.all nst && decide (es'.length ≤ 1000) && chks P G T es es'
  | .lst es, .List es' _ => es'.all nst && decide (es'.length ≤ 1000) && chks P G T es es'
  | .mlst es, .List es' _ => es'.all nst && decide (es'.length ≤ 1000) && chks P G T es es'
  | .mdct, .Dict [] [] _ => true
  | .call f es, .Call (.Name x _) es' [] _ => (ngr G f && defIs P G f .glob x) && glb T.sc x && nDbg x && es'.all nst && chks P G T es es'
  | .meth f o es, .Call (.Attribute o' m apos) es' [] pos => (ngr G f && defIs P G f .meth m) && nsup o' && (apos.endLine == pos.line) && decide (es'.length < 30) && es'.all nst && chk P G T o o' && chks P G T es es'
  | .prop f o, .Attribute o' m _ => (ngr G f && defIs P G f .prop m) && nsup o' && chk P G T o o'
  | .make f es, .Call (.Name x _) es' [] _ => (ngr G f && mkIs P G f x) && glb T.sc x && nDbg x && es'.all nst && chks P G T es es'
  | .fld c o f, .Attribute o' m _ => decide ((c, f) ∈ G.fields) && sEq m (G.fn f) && nsup o' && chk P G T o o'
  | .bi b es, .Call (.Name x _) (e' :: es') [] _ => sEq x (biName b) && gfree G T x && decide (b ≠ .dict) && nst e' && es'.all nst && chks P G T es (e' :: es')
  | .isi a t, .Call (.Name x _) [a', .Name y _] [] _ => sEq x "isinstance" && gfree G T x && isTyB t && sEq y (tyStr t) && gfree G T y && nst a' && chk P G T a a'
  | .idx a b, .Subscript a' b' _ => nsl b' && chk P G T a a' && chk P G T b b'
  | .sl a lo hi, .Subscript a' (.Slice (some lo') (some hi') none _) _ => chk P G T a a' && chk P G T lo lo' && chk P G T hi hi'
  | .slT a lo, .Subscript a' (.Slice (some lo') none none _) _ => chk P G T a a' && chk P G T lo lo'
  | .slH a hi, .Subscript a' (.Slice none (some hi') none _) _ => chk P G T a a' && chk P G T hi hi'
  | .lc tg own it c e, .ListComp e' [⟨tg', it', ifs, ia⟩] scope _ => decide (ia = 0) && nset it' && blkC T.N T.sc scope (ownP T.N own) && decide (((ownP T.N own).map (·.2)) = own) && tg.slots.all (fun i => own.contains i) && chkG (T.blk scope) tg tg' && chkI P G T it tg' it' &&
      (match ifs with
      | [] => isC0 c
      | [c'] => nif c' && chk P G (T.blk scope) c c'
      | _ => false) && chk P G (T.blk scope) e e'
  | .dc tg own it k v, .DictComp k' v' [⟨tg', it', ifs, ia⟩] scope _ => decide (ia = 0) && nset it' && blkC T.N T.sc scope (ownP T.N own) && decide (((ownP T.N own).map (·.2)) = own) && tg.slots.all (fun i => own.contains i) && chkG (T.blk scope) tg tg' && chkI P G T it tg' it' && ifs.isEmpty && chk P G (T.blk scope) k k' && chk P G (T.blk scope) v v'
  | .has neg f a o, .Compare a' [op] [o'] _ => hasOp neg op && nset o' && (ngr G f && defIs P G f .meth "__contains__") && chk P G T a a' && chk P G T o o'
  | .stat f es, .Call (.Attribute (.Name y _) m apos) es' [] pos => (ngr G f && stIs P G f y m) && !G.kwo.contains f && glb T.sc y && nDbg y && (apos.endLine == pos.line) && decide (es'.length < 29) && es'.all nst && ncons es' && chks P G T es es'
  | .statK f ks perm, .Call (.Attribute (.Name y _) m apos) [] kws pos => (ngr G f && stIs P G f y m) && kwIs G f 0 (kws.filterMap (·.arg)) perm && kws.all (fun k => k.arg.isSome) && decide (kws.length < 29) && glb T.sc y && nDbg y && (apos.endLine == pos.line) && chks P G T ks (kws.map (·.value))
  | .makeK f es ks perm, .Call (.Name x _) es' kws _ => (ngr G f && mkIsK P G f x) && kwIs G f (es'.length + 1) (kws.filterMap (·.arg)) perm && kws.all (fun k => k.arg.isSome) && glb T.sc x && nDbg x && es'.all nst && ncons es' && chks P G T es es' && chks P G T ks (kws.map (·.value))
  | .dz a b, .Call (.Name x _) args [] _ => (match dzArgs args with
    | some (y, a', b') => sEq x "dict" && gfree G T x && sEq y "zip" && gfree G T y && nst a' && nst b' && chk P G T a a' && chk P G T b b'
    | none => false)
  | .chain3 o1 o2 o3 a b c d, .Compare a' [op, op', op3] [b', c', d'] _ => cpOk o1 op && cpOk o2 op' && cpOk o3 op3 && nset d' && chk P G T a a' && chk P G T b b' && chk P G T c c' && chk P G T d d'
  | .dsp kvs, .Dict keys values _ => keys.all (·.isSome) && decide (keys.length = values.length) && decide (keys.length ≤ 15) && !keys.isEmpty && chks P G T kvs (ilv keys values)
  | .inR neg x a b, .Compare x' [op] [r'] _ => (match rngArgs r' with
    | some (y, a', b') => hasOp neg op && sEq y "range" && gfree G T y && nst a' && nst b' && chk P G T x x' && chk P G T a a' && chk P G T b b'
    | none => false)
  | .join a b, .Call (.Attribute o' m apos) [e'] [] pos => sEq m "join" && nsup o' && (apos.endLine == pos.line) && nst e' && chk P G T a o' && chk P G T b e'
  | .upd a b, .Call (.Attribute o' m apos) [e'] [] pos => sEq m "update" && nsup o' && (apos.endLine == pos.line) && nst e' && chk P G T a o' && chk P G T b e'
  | .methK f o ks perm, .Call (.Attribute o' m apos) [] kws pos => (ngr G f && defIs P G f .meth m) && kwIs G f 1 (kws.filterMap (·.arg)) perm && kws.all (fun k => k.arg.isSome) && decide (kws.length < 29) && nsup o' && (apos.endLine == pos.line) && chk P G T o o' && chks P G T ks (kws.map (·.value))
  | .callG f es, .Call (.Name x _) (e' :: es') [] _ => T.g && G.grd.contains f && defIs P G f .glob x && glb T.sc x && nDbg x && nst e' && es'.all nst && chks P G T es (e' :: es')
  | .popA o i, .Call (.Attribute o' m apos) [e'] [] pos => sEq m "pop" && nsup o' && (apos.endLine == pos.line) && nst e' && chk P G T o o' && chk P G T i e'
  | .popL o, .Call (.Attribute o' m apos) [] [] pos => sEq m "pop" && nsup o' && (apos.endLine == pos.line) && chk P G T o o'
  | .ext o e, .Call (.Attribute o' m apos) [e'] [] pos => sEq m "extend" && nsup o' && (apos.endLine == pos.line) && nst e' && chk P G T o o' && chk P G T e e'
  | .mslH a hi, .Subscript a' (.Slice none (some hi') none _) _ => chk P G T a a' && chk P G T hi hi'
  | .dpr e, .Call (.Name x _) [e'] [] _ => sEq x "dict" && gfree G T x && nst e' && chk P G T e e'
  | .eqR neg a b, .Compare x' [op] [y'] _ => (match repArg x', repArg y' with
    | some (u, a'), some (v, b') => T.g && eqOp neg op && sEq u "repr" && gfree G T u && sEq v "repr" && gfree G T v && nst a' && nst b' && chk P G T a a' && chk P G T b b'
    | _, _ => false)
  | .emp neg a, .Compare a' [op] [.List [] _] _ => eqOp neg op && chk P G T a a'
  | .rev a, .Subscript a' (.Slice none none (some s') _) _ => isM1 s' && chk P G T a a'
  | .app o e, .Call (.Attribute o' m apos) [e'] [] pos => sEq m "append" && nsup o' && (apos.endLine == pos.line) && nst e' && chk P G T o o' && chk P G T e e'
  | _, _ => false
def chks (P : Pg) (G : Gm) (T : Tx) : EL → List Expr → Bool
  | .nil, [] => true
  | .cons e es, e' :: es' => chk P G T e e' && chks P G T es es'
  | _, _ => false
def chkI (P : Pg) (G : Gm) (T : Tx) : It → Expr → Expr → Bool
  | .seq e, _, e' => chk P G T e e'
  | .range1 a, _, .Call (.Name x _) [a'] [] _ => sEq x "range" && gfree G T x && nst a' && chk P G T a a'
  | .range2 a b, _, .Call (.Name x _) [a', b'] [] _ => sEq x "range" && gfree G T x && nst a' && nst b' && chk P G T a a' && chk P G T b b'
  | .enum e, tg, .Call (.Name x _) [a'] [] _ => sEq x "enumerate" && gfree G T x && isTupE tg && nst a' && chk P G T e a'
  | .down a b, _, .Call (.Name x _) [a', b', c'] [] _ => sEq x "range" && gfree G T x && nst a' && nst b' && isM1 c' && chk P G T a a' && chk P G T b b'
  | .zip a b, tg, .Call (.Name x _) [a', b'] [] _ => sEq x "zip" && gfree G T x && isTupE tg && nst a' && nst b' && chk P G T a a' && chk P G T b b'
  | _, _, _ => false
end
end VI

/-! VI, part H: each expression's judgement, I. -/
namespace VI
open PySem L2 PyProof.Rows
def isBo : Expr → Bool
  | .BoolOp .. => true
  | _ => false
def OkE (P : Pg) (G : Gm) (nm : Nm) (ad : Nat → Addr) (fdo : Nat → FuncData) (n : Nat) (e : E) : Prop := ∀ {x : Expr} {X : Cx} {T : Tx}, Sit P G nm ad fdo n X T → chk P G T e x = true →
  PE X x (RdE X.K nm (ev P (run P n) e)) ∧ (nif x = true → PT X x (RdT X.K nm (ev P (run P n) e))) ∧ (isBo x = true → PW X x (RdT X.K nm (ev P (run P n) e)))
def OkA (P : Pg) (G : Gm) (nm : Nm) (ad : Nat → Addr) (fdo : Nat → FuncData) (n : Nat) (es : EL) : Prop := ∀ {xs : List Expr} {X : Cx} {T : Tx}, Sit P G nm ad fdo n X T → chks P G T es xs = true → xs.all nst = true →
  PA X xs (RdA X.K nm (evs P (run P n) es))
def OkI (P : Pg) (G : Gm) (nm : Nm) (ad : Nat → Addr) (fdo : Nat → FuncData) (n : Nat) (it : It) : Prop := ∀ {x tg : Expr} {X : Cx} {T : Tx}, Sit P G nm ad fdo n X T → chkI P G T it tg x = true →
  PI X tg x (RdI X.K nm (evI P (run P n) it))
section
variable {P : Pg} {G : Gm} {nm : Nm} {ad : Nat → Addr} {fdo : Nat → FuncData} {n : Nat}
theorem RdT.toE {K : PySem.W.Frag} {g : Ev → Hh → Option (D × Hh)} {σ : L2.St} {H : Hp} {Q : Bool → Hp → Prop} (h : RdT K nm g σ H Q) : RdE K nm g σ H fun x H1 => ∃ c, x = .bl c ∧ Q c H1 := by
  obtain ⟨vw, hh, δ, b, h', sr, en, e, k⟩ := h
  refine ⟨vw, hh, δ, _, h', sr, en, e, fun vw' H' v st s' r => ?_⟩
  cases r
  exact ⟨b, rfl, k vw' H' st s'⟩
theorem mkPlain {X : Cx} {x : Expr} {g : Ev → Hh → Option (D × Hh)} (h : PE X x (RdE X.K nm g)) (hp : plainT x = true) : PE X x (RdE X.K nm g) ∧ (nif x = true → PT X x (RdT X.K nm g)) ∧ (isBo x = true → PW X x (RdT X.K nm g)) :=
  ⟨h, fun _ => (pt_val h (test_plain hp _)).imp fun _ _ _ q => q.toE, fun hb => by cases x <;> simp [isBo, plainT] at hb hp⟩
theorem ok_var (i : Nat) : OkE P G nm ad fdo n (.var i) := fun {x X T} S h => by
  cases x <;> simp only [chk, Bool.false_eq_true] at h
  simp only [Bool.and_eq_true, decide_eq_true_eq] at h
  obtain ⟨⟨h1, h2⟩, h3⟩ := h
  have h3 := nDbg_ok h3
  refine mkPlain ((pe_var (i := i) (by rw [S.N]; exact h1) (by rw [S.sc]; exact vis_ok h2) h3.1 h3.2.1).imp ?_) rfl
  rintro σ H Q ⟨vw, hh, δ, d, h', sr, en, e, k⟩
  simp only [ev] at e
  obtain ⟨d2, e1, e2⟩ := Option.map_eq_some_iff.mp e
  simp only [Prod.mk.injEq] at e2
  obtain ⟨rfl, rfl⟩ := e2
  obtain ⟨v, a, b⟩ := en.look e1
  exact ⟨v, a, k vw H v Stp.rfl sr b⟩
theorem ok_cst (d : D) : OkE P G nm ad fdo n (.cst d) := fun {x X T} S h => by
  cases x <;> simp only [chk, Bool.false_eq_true] at h
  rename_i c k pos
  have key : ∀ {v : V}, PE X (.Constant c k pos) (tC v) → (∀ vw, Rep X.K vw v d) → PE X (.Constant c k pos) (RdE X.K nm (ev P (run P n) (.cst d))) := fun {v} hp hr => by
    refine hp.imp ?_
    rintro σ H Q ⟨vw, hh, δ, d2, h', sr, en, e, k⟩
    simp only [ev, Option.some.injEq, Prod.mk.injEq] at e
    obtain ⟨rfl, rfl⟩ := e
    exact k vw H v Stp.rfl sr (hr vw)
  refine mkPlain ?_ rfl
  cases d <;> cases c <;> simp only [cstOk, Bool.false_eq_true] at h
  · exact key pe_non fun _ => .non
  · have e := eq_of_beq h; subst e
    exact key pe_bl fun _ => .bl _
  · have e := of_decide_eq_true h; subst e
    exact key pe_int fun _ => .int _
  · have e := of_decide_eq_true h; subst e
    exact key pe_str fun vw => by
      rename_i x
      have := Rep.str (K := X.K) (vw := vw) x.cps.toList
      rw [toS_of] at this
      exact this
theorem ok_glo (g : Nat) : OkE P G nm ad fdo n (.glo g) := fun {x X T} S h => by
  cases x <;> simp only [chk, Bool.false_eq_true] at h
  simp only [Bool.and_eq_true, decide_eq_true_eq] at h
  obtain ⟨⟨h1, h2⟩, h3⟩ := h
  have h3 := nDbg_ok h3
  refine mkPlain ⟨?_⟩ rfl
  rintro pins s σ H Q I ⟨vw, hh, δ, d, h', sr, en, e, k⟩
  simp only [ev] at e
  obtain ⟨d2, e1, e2⟩ := Option.map_eq_some_iff.mp e
  simp only [Prod.mk.injEq] at e2
  obtain ⟨rfl, rfl⟩ := e2
  obtain ⟨u, v, a, b, c⟩ := S.fac.con g _ _ h1 e1
  exact (pe_glob (S.gl h2) a b h3.1).run pins s σ H Q I (k vw H v Stp.rfl sr (c vw))
/-- two parts and an operation -/
theorem rd_two {K : PySem.W.Frag} {ga gb : Ev → Hh → Option (D × Hh)} {g : Hh → D → D → Option D} {σ : L2.St} {H : Hp} {Q : VK}
    (h : RdE K nm (fun δ h => (ga δ h).bind fun p => (gb δ p.2).bind fun q => (g q.2 p.1 q.1).map fun d => (d, q.2)) σ H Q) : tOp (RdO K nm g) (RdE K nm ga) (RdE K nm gb) σ H Q := by
  obtain ⟨vw, hh, δ, d, h', sr, en, e, k⟩ := h
  obtain ⟨p, e1, e⟩ := Option.bind_eq_some_iff.mp e
  obtain ⟨q, e2, e⟩ := Option.bind_eq_some_iff.mp e
  obtain ⟨r, e3, e4⟩ := Option.map_eq_some_iff.mp e
  simp only [Prod.mk.injEq] at e4
  obtain ⟨rfl, rfl⟩ := e4
  refine ⟨vw, hh, δ, p.1, p.2, sr, en, e1, fun vw1 H1 x st1 sr1 rx => ?_⟩
  refine ⟨vw1, p.2, δ, q.1, q.2, sr1, en.mono st1.le, e2, fun vw2 H2 y st2 sr2 ry => ?_⟩
  exact ⟨vw2, q.2, p.1, q.1, r, sr2, rx.mono st2.le, ry, e3, fun vw3 H3 v st3 sr3 rv => k vw3 H3 v (st1.trans (st2.trans st3)) sr3 rv⟩
theorem ok_bin {o : Op} {a b : E} (ha : OkE P G nm ad fdo n a) (hb : OkE P G nm ad fdo n b) : OkE P G nm ad fdo n (.bin o a b) := fun {x X T} S h => by
  cases x <;> simp only [chk, Bool.false_eq_true] at h
  simp only [Bool.and_eq_true] at h
  obtain ⟨⟨h1, h2⟩, h3⟩ := h
  refine mkPlain ((pe_op (ops_bin (nm := nm) (opOk_ok h1)) (ha S h2).1 (hb S h3).1).imp fun σ H Q q => rd_two ?_) rfl
  simpa only [ev] using q
theorem ok_cmp {o : Op} {a b : E} (ha : OkE P G nm ad fdo n a) (hb : OkE P G nm ad fdo n b) : OkE P G nm ad fdo n (.cmp o a b) := fun {x X T} S h => by
  cases x <;> try (simp only [chk, Bool.false_eq_true] at h; done)
  rename_i l ops cs pos
  match ops, cs, h with
  | [op], [c], h =>
    simp only [chk, Bool.and_eq_true] at h
    obtain ⟨⟨⟨h1, h0⟩, h2⟩, h3⟩ := h
    have key : ∀ σ H Q, RdE X.K nm (ev P (run P n) (.cmp o a b)) σ H Q → tOp (RdO X.K nm fun h => op2 h o) (RdE X.K nm (ev P (run P n) a)) (RdE X.K nm (ev P (run P n) b)) σ H Q := fun σ H Q q => rd_two (by simpa only [ev] using q)
    refine ⟨(pe_cmpR (ops_cmp (nm := nm) S.hu (cpOk_ok h1)) (ha S h2).1 (hb S h3).1 (marks_plain h0 _)).imp key, fun _ => (pt_cmpR (ops_cmp (nm := nm) S.hu (cpOk_ok h1)) (ha S h2).1 (hb S h3).1 (marks_plain h0 _)).imp fun σ H Q q => key _ _ _ q.toE, fun hb => by simp [isBo] at hb⟩
  | [], _, h => simp [chk] at h
  | [_], [], h => simp [chk] at h
  | [_], _ :: _ :: _, h => simp [chk] at h
  | [_, _], [], h => simp [chk] at h
  | [_, _], [_], h => simp [chk] at h
  | [_, _], [_, _], h => simp [chk] at h
  | [_, _], _ :: _ :: _ :: _, h => simp [chk] at h
  | _ :: _ :: _ :: _, _, h => simp [chk] at h
theorem ok_chain {o o' : Op} {a b c : E} (ha : OkE P G nm ad fdo n a) (hb : OkE P G nm ad fdo n b) (hc : OkE P G nm ad fdo n c) : OkE P G nm ad fdo n (.chain o o' a b c) := fun {x X T} S h => by
  cases x <;> try (simp only [chk, Bool.false_eq_true] at h; done)
  rename_i l ops cs pos
  match ops, cs, h with
  | [op, op'], [b', c'], h =>
    simp only [chk, Bool.and_eq_true] at h
    obtain ⟨⟨⟨⟨⟨h1, h1'⟩, h0⟩, h2⟩, h3⟩, h4⟩ := h
    have key : ∀ σ H Q, RdE X.K nm (ev P (run P n) (.chain o o' a b c)) σ H Q → tChain (RdO X.K nm fun h => op2 h o) (RdO X.K nm fun h => op2 h o') (RdE X.K nm (ev P (run P n) a)) (RdE X.K nm (ev P (run P n) b)) (RdE X.K nm (ev P (run P n) c)) σ H Q := by
      rintro σ H Q ⟨vw, hh, δ, d, h', sr, en, e, k⟩
      simp only [ev] at e
      obtain ⟨p, e1, e⟩ := Option.bind_eq_some_iff.mp e
      obtain ⟨q, e2, e⟩ := Option.bind_eq_some_iff.mp e
      obtain ⟨r, e3, e⟩ := Option.bind_eq_some_iff.mp e
      refine ⟨vw, hh, δ, p.1, p.2, sr, en, e1, fun vw1 H1 x st1 sr1 rx => ?_⟩
      refine ⟨vw1, p.2, δ, q.1, q.2, sr1, en.mono st1.le, e2, fun vw2 H2 y st2 sr2 ry => ?_⟩
      refine ⟨vw2, q.2, p.1, q.1, r, sr2, rx.mono st2.le, ry, e3, fun vw3 H3 v st3 sr3 rv => ?_⟩
      have en3 : EnvR X.K vw3 σ δ := ((en.mono st1.le).mono st2.le).mono st3.le
      cases r with
      | bl t =>
        cases rv
        cases t with
        | true =>
          refine ⟨true, rfl, ?_⟩
          obtain ⟨u, e4, e⟩ := Option.bind_eq_some_iff.mp e
          obtain ⟨z, e5, e6⟩ := Option.map_eq_some_iff.mp e
          simp only [Prod.mk.injEq] at e6
          obtain ⟨rfl, rfl⟩ := e6
          show (if true = true then _ else _)
          rw [if_pos rfl]
          refine ⟨vw3, q.2, δ, u.1, u.2, sr3, en3, e4, fun vw4 H4 w st4 sr4 rw' => ?_⟩
          exact ⟨vw4, u.2, q.1, u.1, z, sr4, (ry.mono st3.le).mono st4.le, rw', e5, fun vw5 H5 v st5 sr5 rv => k vw5 H5 v (st1.trans (st2.trans (st3.trans (st4.trans st5)))) sr5 rv⟩
        | false =>
          refine ⟨false, rfl, ?_⟩
          simp only [Option.some.injEq, Prod.mk.injEq] at e
          obtain ⟨rfl, rfl⟩ := e
          show (if false = true then _ else _)
          rw [if_neg Bool.false_ne_true]
          exact k vw3 H3 _ (st1.trans (st2.trans st3)) sr3 (.bl _)
      | _ => cases e
    refine ⟨(pe_chain (ops_cmp (nm := nm) S.hu (cpOk_ok h1)) (ops_cmp (nm := nm) S.hu (cpOk_ok h1')) (ha S h2).1 (hb S h3).1 (hc S h4).1 (last_plain h0 _ _)).imp key,
      fun _ => (pt_chain (ops_cmp (nm := nm) S.hu (cpOk_ok h1)) (ops_cmp (nm := nm) S.hu (cpOk_ok h1')) (ha S h2).1 (hb S h3).1 (hc S h4).1 (last_plain h0 _ _)).imp fun σ H Q q => key _ _ _ q.toE, fun hb => by simp [isBo] at hb⟩
  | [], _, h => simp [chk] at h
  | [_], [], h => simp [chk] at h
  | [_], [_], h => simp [chk] at h
  | [_], _ :: _ :: _, h => simp [chk] at h
  | [_, _], [], h => simp [chk] at h
  | [_, _], [_], h => simp [chk] at h
  | [_, _], _ :: _ :: _ :: _, h => simp [chk] at h
  | _ :: _ :: _ :: _, _, h => simp [chk] at h
theorem ok_neg {a : E} (ha : OkE P G nm ad fdo n a) : OkE P G nm ad fdo n (.neg a) := fun {x X T} S h => by
  cases x <;> try (simp only [chk, Bool.false_eq_true] at h; done)
  rename_i op a' pos
  cases op <;> simp only [chk, Bool.false_eq_true] at h
  refine mkPlain ((pe_un un_neg (ha S h).1).imp ?_) rfl
  rintro σ H Q ⟨vw, hh, δ, d, h', sr, en, e, k⟩
  simp only [ev] at e
  obtain ⟨⟨pd, ph⟩, e1, e⟩ := Option.bind_eq_some_iff.mp e
  refine ⟨vw, hh, δ, pd, ph, sr, en, e1, fun vw1 H1 x st1 sr1 rx => ?_⟩
  cases rx <;> simp only [Option.some.injEq, Prod.mk.injEq, reduceCtorEq] at e
  obtain ⟨rfl, rfl⟩ := e
  exact ⟨_, rfl, k vw1 H1 _ st1 sr1 (.int _)⟩
theorem ok_not {a : E} (ha : OkE P G nm ad fdo n a) : OkE P G nm ad fdo n (.notV a) := fun {x X T} S h => by
  cases x <;> try (simp only [chk, Bool.false_eq_true] at h; done)
  rename_i op a' pos
  cases op <;> simp only [chk, Bool.false_eq_true, Bool.and_eq_true] at h
  obtain ⟨h0, h1⟩ := h
  refine ⟨(pe_not (ha S h1).1).imp ?_, fun _ => (pt_not ((ha S h1).2.1 h0)).imp ?_, fun hb => by simp [isBo] at hb⟩
  · rintro σ H Q ⟨vw, hh, δ, d, h', sr, en, e, k⟩
    simp only [ev] at e
    obtain ⟨⟨pd, ph⟩, e1, e⟩ := Option.bind_eq_some_iff.mp e
    refine ⟨vw, hh, δ, pd, ph, sr, en, e1, fun vw1 H1 x st1 sr1 rx => ?_⟩
    cases rx <;> simp only [Option.some.injEq, Prod.mk.injEq, reduceCtorEq] at e
    obtain ⟨rfl, rfl⟩ := e
    exact ⟨_, rfl, k vw1 H1 _ st1 sr1 (.bl _)⟩
  · rintro σ H Q ⟨vw, hh, δ, d, h', sr, en, e, k⟩
    simp only [ev] at e
    obtain ⟨p, e1, e⟩ := Option.bind_eq_some_iff.mp e
    obtain ⟨pd, ph⟩ := p
    cases pd <;> simp only [Option.some.injEq, Prod.mk.injEq, reduceCtorEq, D.bl.injEq] at e
    obtain ⟨rfl, rfl⟩ := e
    exact ⟨vw, hh, δ, _, ph, sr, en, e1, fun vw1 H1 st1 sr1 => k vw1 H1 st1 sr1⟩
theorem rd_and {K : PySem.W.Frag} {a b : E} {σ : L2.St} {H : Hp} {Q : Bool → Hp → Prop} (h : RdT K nm (ev P (run P n) (.andV a b)) σ H Q) : tAnd (RdT K nm (ev P (run P n) a)) (RdT K nm (ev P (run P n) b)) σ H Q := by
  obtain ⟨vw, hh, δ, d, h', sr, en, e, k⟩ := h
  simp only [ev] at e
  obtain ⟨p, e1, e⟩ := Option.bind_eq_some_iff.mp e
  obtain ⟨pd, ph⟩ := p
  cases pd <;> simp only [reduceCtorEq] at e
  rename_i t
  refine ⟨vw, hh, δ, t, ph, sr, en, e1, fun vw1 H1 st1 sr1 => ?_⟩
  cases t with
  | true =>
    show (if true = true then _ else _)
    rw [if_pos rfl]
    exact ⟨vw1, ph, δ, d, h', sr1, en.mono st1.le, e, fun vw2 H2 st2 sr2 => k vw2 H2 (st1.trans st2) sr2⟩
  | false =>
    show (if false = true then _ else _)
    rw [if_neg Bool.false_ne_true]
    simp only [Option.some.injEq, Prod.mk.injEq, D.bl.injEq] at e
    obtain ⟨rfl, rfl⟩ := e
    exact k vw1 H1 st1 sr1
theorem rd_or {K : PySem.W.Frag} {a b : E} {σ : L2.St} {H : Hp} {Q : Bool → Hp → Prop} (h : RdT K nm (ev P (run P n) (.orV a b)) σ H Q) : tOr (RdT K nm (ev P (run P n) a)) (RdT K nm (ev P (run P n) b)) σ H Q := by
  obtain ⟨vw, hh, δ, d, h', sr, en, e, k⟩ := h
  simp only [ev] at e
  obtain ⟨p, e1, e⟩ := Option.bind_eq_some_iff.mp e
  obtain ⟨pd, ph⟩ := p
  cases pd <;> simp only [reduceCtorEq] at e
  rename_i t
  refine ⟨vw, hh, δ, t, ph, sr, en, e1, fun vw1 H1 st1 sr1 => ?_⟩
  cases t with
  | false =>
    show (if false = true then _ else _)
    rw [if_neg Bool.false_ne_true]
    exact ⟨vw1, ph, δ, d, h', sr1, en.mono st1.le, e, fun vw2 H2 st2 sr2 => k vw2 H2 (st1.trans st2) sr2⟩
  | true =>
    show (if true = true then _ else _)
    rw [if_pos rfl]
    simp only [Option.some.injEq, Prod.mk.injEq, D.bl.injEq] at e
    obtain ⟨rfl, rfl⟩ := e
    exact k vw1 H1 st1 sr1
theorem rd_andV {K : PySem.W.Frag} {a b : E} {σ : L2.St} {H : Hp} {Q : VK} (h : RdE K nm (ev P (run P n) (.andV a b)) σ H Q) : tAndV (RdE K nm (ev P (run P n) a)) (RdE K nm (ev P (run P n) b)) σ H Q := by
  obtain ⟨vw, hh, δ, d, h', sr, en, e, k⟩ := h
  simp only [ev] at e
  obtain ⟨p, e1, e⟩ := Option.bind_eq_some_iff.mp e
  obtain ⟨pd, ph⟩ := p
  refine ⟨vw, hh, δ, pd, ph, sr, en, e1, fun vw1 H1 x st1 sr1 rx => ?_⟩
  cases rx <;> simp only [reduceCtorEq] at e
  rename_i t
  refine ⟨t, rfl, ?_⟩
  cases t with
  | true =>
    rw [if_pos rfl]
    exact ⟨vw1, ph, δ, d, h', sr1, en.mono st1.le, e, fun vw2 H2 v st2 sr2 rv => k vw2 H2 v (st1.trans st2) sr2 rv⟩
  | false =>
    rw [if_neg Bool.false_ne_true]
    simp only [Option.some.injEq, Prod.mk.injEq] at e
    obtain ⟨rfl, rfl⟩ := e
    exact k vw1 H1 _ st1 sr1 (.bl _)
theorem rd_orV {K : PySem.W.Frag} {a b : E} {σ : L2.St} {H : Hp} {Q : VK} (h : RdE K nm (ev P (run P n) (.orV a b)) σ H Q) : tOrV (RdE K nm (ev P (run P n) a)) (RdE K nm (ev P (run P n) b)) σ H Q := by
  obtain ⟨vw, hh, δ, d, h', sr, en, e, k⟩ := h
  simp only [ev] at e
  obtain ⟨p, e1, e⟩ := Option.bind_eq_some_iff.mp e
  obtain ⟨pd, ph⟩ := p
  refine ⟨vw, hh, δ, pd, ph, sr, en, e1, fun vw1 H1 x st1 sr1 rx => ?_⟩
  cases rx <;> simp only [reduceCtorEq] at e
  rename_i t
  refine ⟨t, rfl, ?_⟩
  cases t with
  | false =>
    rw [if_neg Bool.false_ne_true]
    exact ⟨vw1, ph, δ, d, h', sr1, en.mono st1.le, e, fun vw2 H2 v st2 sr2 rv => k vw2 H2 v (st1.trans st2) sr2 rv⟩
  | true =>
    rw [if_pos rfl]
    simp only [Option.some.injEq, Prod.mk.injEq] at e
    obtain ⟨rfl, rfl⟩ := e
    exact k vw1 H1 _ st1 sr1 (.bl _)
theorem ok_and {a b : E} (ha : OkE P G nm ad fdo n a) (hb : OkE P G nm ad fdo n b) : OkE P G nm ad fdo n (.andV a b) := fun {x X T} S h => by
  cases x <;> try (simp only [chk, Bool.false_eq_true] at h; done)
  rename_i op vs pos
  cases op
  · match vs, h with
    | a' :: b' :: r, h =>
      simp only [chk, Bool.and_eq_true] at h
      obtain ⟨⟨⟨h0, h0'⟩, h1⟩, h2⟩ := h
      have A := ha S h1
      match r, h2 with
      | [], h2 =>
        have B := hb S h2
        have W : PW X (.BoolOp .And [a', b'] pos) (RdT X.K nm (ev P (run P n) (.andV a b))) := (pw_and (A.2.1 h0) (pw_and1 (B.2.1 h0'))).imp fun _ _ _ q => rd_and q
        exact ⟨(pe_and A.1 (pe_one B.1)).imp fun _ _ _ q => rd_andV q, fun _ => W.pt, fun _ => W⟩
      | c' :: r', h2 =>
        have B := hb S h2
        have W : PW X (.BoolOp .And (a' :: b' :: c' :: r') pos) (RdT X.K nm (ev P (run P n) (.andV a b))) := (pw_and (A.2.1 h0) (B.2.2 rfl)).imp fun _ _ _ q => rd_and q
        exact ⟨(pe_and A.1 B.1).imp fun _ _ _ q => rd_andV q, fun _ => W.pt, fun _ => W⟩
    | [], h => simp [chk] at h
    | [_], h => simp [chk] at h
  · simp [chk] at h
theorem ok_or {a b : E} (ha : OkE P G nm ad fdo n a) (hb : OkE P G nm ad fdo n b) : OkE P G nm ad fdo n (.orV a b) := fun {x X T} S h => by
  cases x <;> try (simp only [chk, Bool.false_eq_true] at h; done)
  rename_i op vs pos
  cases op
  · simp [chk] at h
  · match vs, h with
    | a' :: b' :: r, h =>
      simp only [chk, Bool.and_eq_true] at h
      obtain ⟨⟨⟨h0, h0'⟩, h1⟩, h2⟩ := h
      have A := ha S h1
      match r, h2 with
      | [], h2 =>
        have B := hb S h2
        have W : PW X (.BoolOp .Or [a', b'] pos) (RdT X.K nm (ev P (run P n) (.orV a b))) := (pw_or (A.2.1 h0) (pw_or1 (B.2.1 h0'))).imp fun _ _ _ q => rd_or q
        exact ⟨(pe_or A.1 (pe_one B.1)).imp fun _ _ _ q => rd_orV q, fun _ => W.pt, fun _ => W⟩
      | c' :: r', h2 =>
        have B := hb S h2
        have W : PW X (.BoolOp .Or (a' :: b' :: c' :: r') pos) (RdT X.K nm (ev P (run P n) (.orV a b))) := (pw_or (A.2.1 h0) (B.2.2 rfl)).imp fun _ _ _ q => rd_or q
        exact ⟨(pe_or A.1 B.1).imp fun _ _ _ q => rd_orV q, fun _ => W.pt, fun _ => W⟩
    | [], h => simp [chk] at h
    | [_], h => simp [chk] at h
theorem ok_ite {t a b : E} (ht : OkE P G nm ad fdo n t) (ha : OkE P G nm ad fdo n a) (hb : OkE P G nm ad fdo n b) : OkE P G nm ad fdo n (.ite t a b) := fun {x X T} S h => by
  cases x <;> try (simp only [chk, Bool.false_eq_true] at h; done)
  simp only [chk, Bool.and_eq_true] at h
  obtain ⟨⟨⟨h0, h1⟩, h2⟩, h3⟩ := h
  refine ⟨(pe_ifExp ((ht S h1).2.1 h0) (ha S h2).1 (hb S h3).1).imp ?_, fun h => by simp [nif] at h, fun h => by simp [isBo] at h⟩
  rintro σ H Q ⟨vw, hh, δ, d, h', sr, en, e, k⟩
  simp only [ev] at e
  obtain ⟨p, e1, e⟩ := Option.bind_eq_some_iff.mp e
  obtain ⟨pd, ph⟩ := p
  cases pd <;> simp only [reduceCtorEq] at e
  rename_i c
  refine ⟨vw, hh, δ, c, ph, sr, en, e1, fun vw1 H1 st1 sr1 => ?_⟩
  cases c with
  | true =>
    rw [if_pos rfl]
    exact ⟨vw1, ph, δ, d, h', sr1, en.mono st1.le, e, fun vw2 H2 v st2 sr2 rv => k vw2 H2 v (st1.trans st2) sr2 rv⟩
  | false =>
    rw [if_neg Bool.false_ne_true]
    exact ⟨vw1, ph, δ, d, h', sr1, en.mono st1.le, e, fun vw2 H2 v st2 sr2 rv => k vw2 H2 v (st1.trans st2) sr2 rv⟩
/-! ### argument lists -/
theorem ok_nil : OkA P G nm ad fdo n .nil := fun {xs X T} S h _ => by
  cases xs <;> simp only [chks, Bool.false_eq_true] at h
  refine pa_nil.imp ?_
  rintro σ H Q ⟨vw, hh, δ, d, h', sr, en, e, k⟩
  simp only [evs, Option.some.injEq, Prod.mk.injEq] at e
  obtain ⟨rfl, rfl⟩ := e
  exact k vw H _ Stp.rfl sr .nil
theorem ok_cons {e : E} {es : EL} (he : OkE P G nm ad fdo n e) (hs : OkA P G nm ad fdo n es) : OkA P G nm ad fdo n (.cons e es) := fun {xs X T} S h hn => by
  cases xs <;> simp only [chks, Bool.false_eq_true] at h
  simp only [Bool.and_eq_true] at h
  rw [List.all_cons, Bool.and_eq_true] at hn
  refine (pa_cons (he S h.1).1 (hs S h.2 hn.2) (star_cons hn.1 _ _)).imp ?_
  rintro σ H Q ⟨vw, hh, δ, d, h', sr, en, e, k⟩
  simp only [evs] at e
  obtain ⟨p, e1, e⟩ := Option.bind_eq_some_iff.mp e
  obtain ⟨q, e2, e3⟩ := Option.map_eq_some_iff.mp e
  simp only [Prod.mk.injEq] at e3
  obtain ⟨rfl, rfl⟩ := e3
  refine ⟨vw, hh, δ, p.1, p.2, sr, en, e1, fun vw1 H1 x st1 sr1 rx => ?_⟩
  exact ⟨vw1, p.2, δ, q.1, q.2, sr1, en.mono st1.le, e2, fun vw2 H2 v st2 sr2 rv => k vw2 H2 _ (st1.trans st2) sr2 (.cons (rx.mono st2.le) rv)⟩
end
end VI

/-! VI, part J: each expression's judgement, II: displays, calls, subscripts. -/
namespace VI
open PySem L2 PyProof.Rows
section
variable {P : Pg} {G : Gm} {nm : Nm} {ad : Nat → Addr} {fdo : Nat → FuncData} {n : Nat}
theorem evs_len {Φ : Fn} : ∀ {es : EL} {xs : List Expr} {T : Tx} {δ : Ev} {h h' : Hh} {ds : List D}, chks P G T es xs = true → evs P Φ es δ h = some (ds, h') → ds.length = xs.length
  | .nil, [], T, δ, h, h', ds, c, e => by
    simp only [evs, Option.some.injEq, Prod.mk.injEq] at e
    rw [← e.1]; rfl
  | .cons e0 es, x :: xs, T, δ, h, h', ds, c, e => by
    simp only [chks, Bool.and_eq_true] at c
    simp only [evs] at e
    obtain ⟨p, e1, e⟩ := Option.bind_eq_some_iff.mp e
    obtain ⟨q, e2, e3⟩ := Option.map_eq_some_iff.mp e
    simp only [Prod.mk.injEq] at e3
    obtain ⟨rfl, rfl⟩ := e3
    simp [evs_len c.2 (show evs P Φ es δ p.2 = some (q.1, q.2) from e2)]
  | .nil, _ :: _, T, δ, h, h', ds, c, e => by simp [chks] at c
  | .cons _ _, [], T, δ, h, h', ds, c, e => by simp [chks] at c
theorem th_le {n : Nat} (h : n ≤ 1000) : n ≤ sizeLine := Nat.le_trans h (by decide)
theorem ok_tup {es : EL} (hs : OkA P G nm ad fdo n es) : OkE P G nm ad fdo n (.tup es) := fun {x X T} S h => by
  cases x <;> try (simp only [chk, Bool.false_eq_true] at h; done)
  simp only [chk, Bool.and_eq_true, decide_eq_true_eq] at h
  obtain ⟨⟨h0, h1⟩, h2⟩ := h
  refine mkPlain ((pe_tup (hs S h2 h0)).imp ?_) rfl
  rintro σ H Q ⟨vw, hh, δ, d, h', sr, en, e, k⟩
  simp only [ev] at e
  obtain ⟨⟨ds, hx⟩, e1, e2⟩ := Option.map_eq_some_iff.mp e
  simp only [Prod.mk.injEq] at e2
  obtain ⟨rfl, rfl⟩ := e2
  refine ⟨vw, hh, δ, ds, hx, sr, en, e1, fun vw1 H1 vs st1 sr1 rs => ⟨?_, fun p hp => ?_⟩⟩
  · rw [rs.length, evs_len h2 e1]; exact th_le h1
  · have st := sr1.stF (.tup vs) hp
    exact k _ _ _ (st1.trans st) (sr1.newF hp) (.tup (SqT.of upd_same) (rs.mono st.le))
theorem ok_lst {es : EL} (hs : OkA P G nm ad fdo n es) : OkE P G nm ad fdo n (.lst es) := fun {x X T} S h => by
  cases x <;> try (simp only [chk, Bool.false_eq_true] at h; done)
  simp only [chk, Bool.and_eq_true, decide_eq_true_eq] at h
  obtain ⟨⟨h0, h1⟩, h2⟩ := h
  refine mkPlain ((pe_lst (hs S h2 h0)).imp ?_) rfl
  rintro σ H Q ⟨vw, hh, δ, d, h', sr, en, e, k⟩
  simp only [ev] at e
  obtain ⟨⟨ds, hx⟩, e1, e2⟩ := Option.map_eq_some_iff.mp e
  simp only [Prod.mk.injEq] at e2
  obtain ⟨rfl, rfl⟩ := e2
  refine ⟨vw, hh, δ, ds, hx, sr, en, e1, fun vw1 H1 vs st1 sr1 rs => ⟨?_, fun p hp => ?_⟩⟩
  · rw [rs.length, evs_len h2 e1]; exact th_le h1
  · have st := sr1.stF (.lst vs) hp
    exact k _ _ _ (st1.trans st) (sr1.newF hp) (.lst upd_same (rs.mono st.le))
theorem newM_at {vw : Vw} {p : Addr} {h : Hh} (hl : vw.ρ.length = h.length) : (vw.newM p).ρ[h.length]? = some p := by
  show (vw.ρ ++ [p])[h.length]? = some p
  rw [← hl]; simp
theorem ok_mlst {es : EL} (hs : OkA P G nm ad fdo n es) : OkE P G nm ad fdo n (.mlst es) := fun {x X T} S h => by
  cases x <;> try (simp only [chk, Bool.false_eq_true] at h; done)
  simp only [chk, Bool.and_eq_true, decide_eq_true_eq] at h
  obtain ⟨⟨h0, h1⟩, h2⟩ := h
  refine mkPlain ((pe_lst (hs S h2 h0)).imp ?_) rfl
  rintro σ H Q ⟨vw, hh, δ, d, h', sr, en, e, k⟩
  simp only [ev] at e
  obtain ⟨⟨ds, hx⟩, e1, e2⟩ := Option.map_eq_some_iff.mp e
  simp only [Prod.mk.injEq] at e2
  obtain ⟨rfl, rfl⟩ := e2
  refine ⟨vw, hh, δ, ds, hx, sr, en, e1, fun vw1 H1 vs st1 sr1 rs => ⟨?_, fun p hp => ?_⟩⟩
  · rw [rs.length, evs_len h2 e1]; exact th_le h1
  · have st := sr1.stM (.lst vs) hp
    exact k _ _ _ (st1.trans st) (sr1.newM hp ⟨vs, upd_same, rs.mono st.le⟩) (.ref (newM_at sr1.len))
theorem ok_mdct : OkE P G nm ad fdo n .mdct := fun {x X T} S h => by
  cases x <;> try (simp only [chk, Bool.false_eq_true] at h; done)
  rename_i ks vs pos
  match ks, vs, h with
  | [], [], h =>
    refine mkPlain (pe_dnewK.imp ?_) rfl
    rintro σ H Q ⟨vw, hh, δ, d, h', sr, en, e, k⟩
    simp only [ev, Option.some.injEq, Prod.mk.injEq] at e
    obtain ⟨rfl, rfl⟩ := e
    intro p hp
    have st := sr.stM (.dK []) hp
    exact k _ _ _ st (sr.newM hp ⟨[], upd_same, rfl, .nil⟩) (.ref (newM_at sr.len))
  | [], _ :: _, h => simp [chk] at h
  | _ :: _, _, h => simp [chk] at h
/-- a def's call from its arguments' values -/
theorem sp_of {K : PySem.W.Frag} {f : Nat} {vw0 vw : Vw} {H0 H : Hp} {h h' : Hh} {ds : List D} {d : D} {vs : List V} {Q : VK} {E : XK} (st0 : Stp vw0 H0 vw H) (sr : SR K nm vw H h) (rs : Reps K vw vs ds) (e : run P n f ds h = some (d, h'))
    (k : ∀ vw' H' v, Stp vw0 H0 vw' H' → SR K nm vw' H' h' → Rep K vw' v d → Q v H') : spI K nm P n f vs H Q E :=
  ⟨vw, h, ds, d, h', sr, rs, e, fun vw2 H2 v st2 sr2 rv => k vw2 H2 v (st0.trans st2) sr2 rv⟩
theorem ok_call {f : Nat} {es : EL} (hs : OkA P G nm ad fdo n es) : OkE P G nm ad fdo n (.call f es) := fun {x X T} S h => by
  cases x <;> try (simp only [chk, Bool.false_eq_true] at h; done)
  rename_i fn args kws pos
  cases fn <;> try (simp only [chk, Bool.false_eq_true] at h; done)
  rename_i y p
  cases kws with
  | cons _ _ => simp only [chk, Bool.false_eq_true] at h
  | nil =>
    simp only [chk, Bool.and_eq_true] at h
    obtain ⟨⟨⟨⟨h1, h2⟩, h3⟩, h4⟩, h5⟩ := h
    obtain ⟨d, ps, a1, a2, a3, a4, a5⟩ := defIs_ok h1.2
    obtain ⟨g1, g2⟩ := S.fac.glob f d y a1 a2 a4
    have F := S.fns f d ps a1 a3 (ngr_ok h1.1)
    have B := S.fac.bind f ps a3 a5
    have hr : Room (2 * n) X.A := S.room.mono (by omega)
    have key : ∀ σ H Q, RdE X.K nm (ev P (run P n) (.call f es)) σ H Q → tCall (spI X.K nm P n f) [] E0 (RdA X.K nm (evs P (run P n) es)) σ H Q := by
      rintro σ H Q ⟨vw, hh, δ, d, h', sr, en, e, k⟩
      simp only [ev] at e
      obtain ⟨⟨ds, hx⟩, e1, e⟩ := Option.bind_eq_some_iff.mp e
      refine ⟨vw, hh, δ, ds, hx, sr, en, e1, fun vw1 H1 vs st1 sr1 rs => ?_⟩
      show spI X.K nm P n f (vs ++ []) H1 Q E0
      rw [List.append_nil]
      exact sp_of st1 sr1 rs e k
    cases args with
    | nil =>
      refine mkPlain ((pe_call0 F hr (S.gl h2) g1 g2 B .nil pass0 (nDbg_ok h3).1).imp fun σ H Q q => ?_) rfl
      obtain ⟨vw, hh, δ, ds, hx, sr, en, e1, q⟩ := key σ H Q q
      have e2 : ds = [] := List.eq_nil_of_length_eq_zero (evs_len h5 e1)
      subst e2
      have e3 : hx = hh := by
        cases es with
        | nil => simp only [evs, Option.some.injEq, Prod.mk.injEq] at e1; exact e1.2.symm
        | cons _ _ => simp [chks] at h5
      subst e3
      exact q vw H [] Stp.rfl sr .nil
    | cons a as =>
      rw [List.all_cons, Bool.and_eq_true] at h4
      exact mkPlain ((pe_call F hr (S.gl h2) g1 g2 B .nil pass0 (hs S h5 (by rw [List.all_cons, h4.1, h4.2]; rfl)) (nDbg_ok h3).1 (star_cons h4.1 _ _) (star_any h4.2 _ _)).imp key) rfl
theorem ins_of {K : PySem.W.Frag} {vw : Vw} {H : Hp} {h : Hh} {v : V} {d : D} {l c : Nat} {fs : List (Nat × D)} (sr : SR K nm vw H h) (r : Rep K vw v d) (e : insAt h d = some (l, c, fs)) :
    ∃ a dx gs, v = .ref a ∧ d = .ref l ∧ vw.ρ[l]? = some a ∧ h[l]? = some (.ins c fs) ∧ H a = some (.ins (nm.ca c) dx gs) ∧ gs.map (·.1) = fs.map (fun p => nm.fn p.1) ∧ Reps K vw (gs.map (·.2)) (fs.map (·.2)) := by
  cases r with
  | ref hl =>
    rename_i a l'
    simp only [insAt] at e
    cases ho : h[l']? with
    | none => rw [ho] at e; cases e
    | some o =>
      rw [ho] at e
      cases o with
      | ins c' fs' =>
        simp only [Option.some.injEq, Prod.mk.injEq] at e
        obtain ⟨rfl, rfl, rfl⟩ := e
        obtain ⟨dx, gs, h1, h2, h3⟩ := sr.ob _ _ _ ho hl
        exact ⟨a, dx, gs, rfl, rfl, hl, ho, h1, h2, h3⟩
      | _ => cases e
  | _ => cases e
theorem lookup_none {gs : List (Str × V)} {m : Str} (h : ∀ p ∈ gs, p.1 ≠ m) : gs.lookup m = none := by
  induction gs with
  | nil => rfl
  | cons p gs ih =>
    obtain ⟨a, b⟩ := p
    have h1 : a ≠ m := h (a, b) List.mem_cons_self
    have h2 : (m == a) = false := by simpa using fun q : m = a => h1 q.symm
    rw [List.lookup_cons, h2]
    exact ih fun q hq => h q (List.mem_cons_of_mem _ hq)
theorem no_field {gs : List (Str × V)} {fs : List (Nat × D)} {m : Str} (e : gs.map (·.1) = fs.map (fun p => nm.fn p.1)) (h : ∀ i, nm.fn i ≠ m) : gs.lookup m = none := lookup_none fun p hp q => by
  have h1 : p.1 ∈ gs.map (·.1) := List.mem_map_of_mem hp
  rw [e] at h1
  obtain ⟨r, _, h2⟩ := List.mem_map.mp h1
  exact h r.1 (h2.trans q)
theorem ok_meth {f : Nat} {o : E} {es : EL} (ho : OkE P G nm ad fdo n o) (hs : OkA P G nm ad fdo n es) : OkE P G nm ad fdo n (.meth f o es) := fun {x X T} S h => by
  cases x <;> try (simp only [chk, Bool.false_eq_true] at h; done)
  rename_i fn args kws pos
  cases fn <;> try (simp only [chk, Bool.false_eq_true] at h; done)
  rename_i o' m apos
  cases kws with
  | cons _ _ => simp only [chk, Bool.false_eq_true] at h
  | nil =>
    simp only [chk, Bool.and_eq_true, decide_eq_true_eq] at h
    obtain ⟨⟨⟨⟨⟨⟨h1, h2⟩, h3⟩, h4⟩, h5⟩, h6⟩, h7⟩ := h
    obtain ⟨d, ps, a1, a2, a3, a4, a5⟩ := defIs_ok h1.2
    have F := S.fns f d ps a1 a3 (ngr_ok h1.1)
    have B := S.fac.bind f ps a3 a5
    have hr : Room (2 * n) X.A := S.room.mono (by omega)
    refine mkPlain ⟨fun pins s σ H Q I q => ?_⟩ rfl
    obtain ⟨vw, hh, δ, r, h', sr, en, e, k⟩ := q
    simp only [ev] at e
    obtain ⟨⟨od, oh⟩, e1, e⟩ := Option.bind_eq_some_iff.mp e
    obtain ⟨⟨l, c, fs⟩, e2, e⟩ := Option.bind_eq_some_iff.mp e
    obtain ⟨⟨ds, hx⟩, e3, e⟩ := Option.bind_eq_some_iff.mp e
    rw [a1] at e
    simp only [Option.ite_none_right_eq_some] at e
    obtain ⟨hc, e⟩ := e
    obtain ⟨m1, m2, m3⟩ := S.fac.meth f d m c a1 a2 a4 hc
    have rd : tMeth (nm.ca c) m (spI X.K nm P n f) [] E0 (RdE X.K nm (ev P (run P n) o)) (RdA X.K nm (evs P (run P n) es)) σ H Q := by
      refine ⟨vw, hh, δ, od, oh, sr, en, e1, fun vw1 H1 v st1 sr1 rv => ?_⟩
      obtain ⟨a, dx, gs, ea, ed, hl, hcell, hH, hn, hrs⟩ := ins_of sr1 rv e2
      refine ⟨a, dx, gs, ea, hH, no_field hn m3, ?_⟩
      refine ⟨vw1, oh, δ, ds, hx, sr1, en.mono st1.le, e3, fun vw2 H2 vs st2 sr2 rs => ?_⟩
      show spI X.K nm P n f (v :: (vs ++ [])) H2 Q E0
      rw [List.append_nil]
      exact sp_of (st1.trans st2) sr2 (.cons (rv.mono st2.le) rs) e k
    cases args with
    | nil =>
      have e4 : ds = [] ∧ hx = oh := by
        cases es with
        | nil => simp only [evs, Option.some.injEq, Prod.mk.injEq] at e3; exact ⟨e3.1.symm, e3.2.symm⟩
        | cons _ _ => simp [chks] at h7
      refine (pe_meth0 (ho S h6).1 m2 m1 F hr B .nil pass0 (meth_tree h2 h5 h4 h3)).run pins s σ H Q I ?_
      obtain ⟨vw0, hh0, δ0, od0, oh0, sr0, en0, e10, q⟩ := rd
      refine ⟨vw0, hh0, δ0, od0, oh0, sr0, en0, e10, fun vw1 H1 v st1 sr1 rv => ?_⟩
      obtain ⟨a, dx, gs, ea, hH, hn, q2⟩ := q vw1 H1 v st1 sr1 rv
      obtain ⟨vw3, hh3, δ3, ds3, hx3, sr3, en3, e33, q3⟩ := q2
      have e5 : ds3 = [] ∧ hx3 = hh3 := by
        cases es with
        | nil => simp only [evs, Option.some.injEq, Prod.mk.injEq] at e33; exact ⟨e33.1.symm, e33.2.symm⟩
        | cons _ _ => simp [chks] at h7
      obtain ⟨rfl, rfl⟩ := e5
      exact ⟨a, dx, gs, ea, hH, hn, q3 vw3 H1 [] Stp.rfl sr3 .nil⟩
    | cons a as =>
      have h5' := h5
      rw [List.all_cons, Bool.and_eq_true] at h5'
      exact (pe_meth (ho S h6).1 m2 m1 F hr B .nil pass0 (hs S h7 h5) (star_cons h5'.1 _ _) (star_any h5'.2 _ _) (meth_tree h2 h5 h4 h3)).run pins s σ H Q I rd
theorem ok_prop {f : Nat} {o : E} (ho : OkE P G nm ad fdo n o) : OkE P G nm ad fdo n (.prop f o) := fun {x X T} S h => by
  cases x <;> try (simp only [chk, Bool.false_eq_true] at h; done)
  simp only [chk, Bool.and_eq_true] at h
  obtain ⟨⟨h1, h2⟩, h3⟩ := h
  rename_i o' m pos
  obtain ⟨d, ps, a1, a2, a3, a4, a5⟩ := defIs_ok h1.2
  have F := S.fns f d ps a1 a3 (ngr_ok h1.1)
  have B := S.fac.bind f ps a3 a5
  refine mkPlain ⟨fun pins s σ H Q I q => ?_⟩ rfl
  obtain ⟨vw, hh, δ, r, h', sr, en, e, k⟩ := q
  simp only [ev] at e
  obtain ⟨⟨od, oh⟩, e1, e⟩ := Option.bind_eq_some_iff.mp e
  obtain ⟨⟨l, c, fs⟩, e2, e⟩ := Option.bind_eq_some_iff.mp e
  rw [a1] at e
  simp only [Option.ite_none_right_eq_some] at e
  obtain ⟨hc, e⟩ := e
  obtain ⟨m2, p, m1⟩ := S.fac.prop f d m c a1 a2 a4 hc
  refine (pe_prop (E := E0) (ho S h3).1 m2 m1 F S.room B .nil pass0 (base_plain h2 _ _)).run pins s σ H Q I ?_
  refine ⟨vw, hh, δ, od, oh, sr, en, e1, fun vw1 H1 v st1 sr1 rv => ?_⟩
  obtain ⟨a, dx, gs, ea, ed, hl, hcell, hH, hn, hrs⟩ := ins_of sr1 rv e2
  refine ⟨a, dx, gs, ea, hH, ?_⟩
  rw [← ea]
  exact sp_of st1 sr1 (.cons rv .nil) e k
theorem run_len {f : Nat} {ds : List D} {h : Hh} {r : D × Hh} (e : run P n f ds h = some r) : ∃ d, P.defs[f]? = some d ∧ ds.length = d.npar := by
  cases n with
  | zero => cases e
  | succ n =>
    simp only [run] at e
    cases hd : P.defs[f]? with
    | none => rw [hd] at e; cases e
    | some d =>
      rw [hd] at e
      simp only [Option.ite_none_right_eq_some] at e
      exact ⟨d, rfl, e.1⟩
theorem ok_make {f : Nat} {es : EL} (hs : OkA P G nm ad fdo n es) : OkE P G nm ad fdo n (.make f es) := fun {x X T} S h => by
  cases x <;> try (simp only [chk, Bool.false_eq_true] at h; done)
  rename_i fn args kws pos
  cases fn <;> try (simp only [chk, Bool.false_eq_true] at h; done)
  rename_i y p
  cases kws with
  | cons _ _ => simp only [chk, Bool.false_eq_true] at h
  | nil =>
    simp only [chk, Bool.and_eq_true] at h
    obtain ⟨⟨⟨⟨h1, h2⟩, h3⟩, h4⟩, h5⟩ := h
    obtain ⟨d, ps, c, a1, a3, a4, a5, a6, a7⟩ := mkIs_ok h1.2
    obtain ⟨g1, g2⟩ := S.fac.init f d c y a1 a4 a6 a7
    have F := S.fns f d ps a1 a3 (ngr_ok h1.1)
    have B := S.fac.bind f ps a3 a5
    have key : ∀ σ H Q, RdE X.K nm (ev P (run P n) (.make f es)) σ H Q → tMake (nm.ca c) (spI X.K nm P n f) [] E0 (RdA X.K nm (evs P (run P n) es)) σ H Q := by
      rintro σ H Q ⟨vw, hh, δ, r, h', sr, en, e, k⟩
      simp only [ev] at e
      obtain ⟨⟨ds, hx⟩, e1, e⟩ := Option.bind_eq_some_iff.mp e
      rw [a1] at e
      simp only [a6] at e
      obtain ⟨⟨rd, rh⟩, e2, e⟩ := Option.bind_eq_some_iff.mp e
      refine ⟨vw, hh, δ, ds, hx, sr, en, e1, fun vw1 H1 vs st1 sr1 rs => ?_⟩
      intro x dx nx ndx ne
      rw [List.append_nil]
      have np : dx ∉ vw1.ρ := sr1.notin ndx
      have nF : vw1.F dx = none := sr1.ex.none ndx
      have sr2 : SR X.K nm vw1 (upd H1 dx (.own x)) hx := sr1.other _ np nF
      have nx2 : upd H1 dx (.own x) x = none := by rw [upd_ne (Ne.symm ne)]; exact nx
      have stA : Stp vw1 H1 vw1 (upd H1 dx (.own x)) := ⟨Vw.Le.rfl, fun a u e _ => by rw [upd_ne (ne_of_none e ndx)]; exact e, fun _ _ e => .inl e, fun _ e => .inl e⟩
      have stB := sr2.stM (.ins (nm.ca c) dx []) nx2
      have sr3 : SR X.K nm (vw1.newM x) (upd (upd H1 dx (.own x)) x (.ins (nm.ca c) dx [])) (hx ++ [.ins c []]) := sr2.newM nx2 ⟨dx, [], upd_same, rfl, .nil⟩
      have rx : Rep X.K (vw1.newM x) (.ref x) (.ref hx.length) := .ref (newM_at sr1.len)
      refine ⟨vw1.newM x, hx ++ [.ins c []], .ref hx.length :: ds, rd, rh, sr3, .cons rx (rs.mono stB.le), e2, fun vw4 H4 v st4 sr4 rv => ?_⟩
      cases rv <;> simp only [reduceCtorEq, Option.some.injEq, Prod.mk.injEq] at e
      obtain ⟨rfl, rfl⟩ := e
      exact ⟨rfl, k vw4 H4 _ (st1.trans (stA.trans (stB.trans st4))) sr4 (rx.mono st4.le)⟩
    cases args with
    | nil =>
      refine mkPlain ((pe_make0 g1 F S.room (S.gl h2) g2 B .nil pass0 (nDbg_ok h3).1).imp fun σ H Q q => ?_) rfl
      obtain ⟨vw, hh, δ, ds, hx, sr, en, e1, q⟩ := key σ H Q q
      have e5 : ds = [] ∧ hx = hh := by
        cases es with
        | nil => simp only [evs, Option.some.injEq, Prod.mk.injEq] at e1; exact ⟨e1.1.symm, e1.2.symm⟩
        | cons _ _ => simp [chks] at h5
      obtain ⟨rfl, rfl⟩ := e5
      exact q vw H [] Stp.rfl sr .nil
    | cons a as =>
      rw [List.all_cons, Bool.and_eq_true] at h4
      exact mkPlain ((pe_make g1 F S.room (S.gl h2) g2 B .nil pass0 (hs S h5 (by rw [List.all_cons, h4.1, h4.2]; rfl)) (nDbg_ok h3).1 (star_cons h4.1 _ _) (star_any h4.2 _ _)).imp key) rfl
theorem lookup_fld {K : PySem.W.Frag} {vw : Vw} : ∀ {fs : List (Nat × D)} {gs : List (Str × V)} {f : Nat} {d : D}, gs.map (·.1) = fs.map (fun p => nm.fn p.1) → Reps K vw (gs.map (·.2)) (fs.map (·.2)) → fget fs f = some d → ∃ v, gs.lookup (nm.fn f) = some v ∧ Rep K vw v d
  | [], [], f, d, _, _, e => by simp [fget] at e
  | (g, e0) :: fs, (y, v0) :: gs, f, d, e1, r, e => by
    simp only [List.map_cons, List.cons.injEq] at e1
    cases r with
    | cons r rs =>
      simp only [fget] at e
      by_cases h : g = f
      · subst h
        rw [if_pos rfl] at e
        have e := Option.some.inj e
        subst e
        refine ⟨v0, ?_, r⟩
        rw [List.lookup_cons, e1.1, beq_self_eq_true]
      · rw [if_neg h] at e
        obtain ⟨v, h1, h2⟩ := lookup_fld e1.2 rs e
        refine ⟨v, ?_, h2⟩
        have : (nm.fn f == y) = false := by
          rw [e1.1]
          simpa using fun q : nm.fn f = nm.fn g => h (nm.inj _ _ q).symm
        rw [List.lookup_cons, this]
        exact h1
  | [], _ :: _, _, _, e1, _, _ => by simp at e1
  | _ :: _, [], _, _, e1, _, _ => by simp at e1
theorem ok_fld {c f : Nat} {o : E} (ho : OkE P G nm ad fdo n o) : OkE P G nm ad fdo n (.fld c o f) := fun {x X T} S h => by
  cases x <;> try (simp only [chk, Bool.false_eq_true] at h; done)
  simp only [chk, Bool.and_eq_true, decide_eq_true_eq] at h
  obtain ⟨⟨⟨h1, h2⟩, h3⟩, h4⟩ := h
  have e0 := sEq_ok h2
  subst e0
  obtain ⟨c1, c2⟩ := S.fac.fld c f h1
  rw [S.fac.fnm] at c2
  refine mkPlain ((pe_fld (ho S h4).1 (base_plain h3 _ _)).imp ?_) rfl
  rintro σ H Q ⟨vw, hh, δ, r, h', sr, en, e, k⟩
  simp only [ev] at e
  obtain ⟨⟨od, oh⟩, e1, e⟩ := Option.bind_eq_some_iff.mp e
  obtain ⟨⟨l, c', fs⟩, e2, e⟩ := Option.bind_eq_some_iff.mp e
  simp only [Option.ite_none_right_eq_some] at e
  obtain ⟨hcc, e5⟩ := e
  subst hcc
  obtain ⟨d, e3, e4⟩ := Option.map_eq_some_iff.mp e5
  simp only [Prod.mk.injEq] at e4
  obtain ⟨rfl, rfl⟩ := e4
  refine ⟨vw, hh, δ, od, oh, sr, en, e1, fun vw1 H1 v st1 sr1 rv => ?_⟩
  obtain ⟨a, dx, gs, ea, ed, hl, hcell, hH, hn, hrs⟩ := ins_of sr1 rv e2
  obtain ⟨w, l1, l2⟩ := lookup_fld hn hrs e3
  rw [S.fac.fnm] at l1
  exact ⟨a, _, dx, gs, w, ea, hH, c1, c2, l1, k vw1 H1 w st1 sr1 l2⟩
theorem rd_bi {K : PySem.W.Frag} {b : Bi} {es : EL} {σ : L2.St} {H : Hp} {Q : VK} (h : RdE K nm (ev P (run P n) (.bi b es)) σ H Q) : tCB (RdB K nm fun h ds => biF h b ds) (RdA K nm (evs P (run P n) es)) σ H Q := by
  obtain ⟨vw, hh, δ, d, h', sr, en, e, k⟩ := h
  simp only [ev] at e
  obtain ⟨⟨ds, hx⟩, e1, e⟩ := Option.bind_eq_some_iff.mp e
  obtain ⟨r, e2, e3⟩ := Option.map_eq_some_iff.mp e
  simp only [Prod.mk.injEq] at e3
  obtain ⟨rfl, rfl⟩ := e3
  refine ⟨vw, hh, δ, ds, hx, sr, en, e1, fun vw1 H1 vs st1 sr1 rs => ?_⟩
  exact ⟨vw1, hx, ds, r, sr1, rs, e2, fun vw2 H2 v st2 sr2 rv => k vw2 H2 v (st1.trans st2) sr2 rv⟩
theorem gfree_ok {X : Cx} {T : Tx} (S : Sit P G nm ad fdo n X T) {x : Str} (h : gfree G T x = true) : Gl X x ∧ X.mg x = none := by
  unfold gfree at h
  simp only [Bool.and_eq_true, decide_eq_true_eq] at h
  exact ⟨S.gl h.1, S.fac.free x h.2⟩
theorem ok_bi {b : Bi} {es : EL} (hs : OkA P G nm ad fdo n es) : OkE P G nm ad fdo n (.bi b es) := fun {x X T} S h => by
  cases x <;> try (simp only [chk, Bool.false_eq_true] at h; done)
  rename_i fn args kws pos
  cases fn <;> try (simp only [chk, Bool.false_eq_true] at h; done)
  rename_i y p
  cases kws with
  | cons _ _ => cases args <;> simp only [chk, Bool.false_eq_true] at h
  | nil =>
    cases args with
    | nil => simp only [chk, Bool.false_eq_true] at h
    | cons a as =>
      simp only [chk, Bool.and_eq_true, decide_eq_true_eq] at h
      obtain ⟨⟨⟨⟨⟨h1, h2⟩, h3⟩, h4⟩, h5⟩, h6⟩ := h
      have e0 := sEq_ok h1
      subst e0
      obtain ⟨g1, g2⟩ := gfree_ok S h2
      have hb := bis (X := X) (nm := nm) S.calm b h3
      have bt := boot_bi b
      obtain ⟨d1, d2⟩ := biName_dbg b
      have A := hs S h6 (by rw [List.all_cons, h4, h5]; rfl)
      refine mkPlain (PE.imp (t := tCB (RdB X.K nm fun h ds => biF h b ds) (RdA X.K nm (evs P (run P n) es))) ?_ fun σ H Q q => rd_bi q) rfl
      cases b <;> first
        | exact pe_callB hb g1 g2 bt A d1 d2 (star_cons h4 _ _) (star_any h5 _ _)
        | exact pe_callTy hb g1 g2 bt A d1 d2 (star_cons h4 _ _) (star_any h5 _ _)
theorem ok_isi {a : E} {t : Ty} (ha : OkE P G nm ad fdo n a) : OkE P G nm ad fdo n (.isi a t) := fun {x X T} S h => by
  cases x <;> try (simp only [chk, Bool.false_eq_true] at h; done)
  rename_i fn args kws pos
  cases fn <;> try (simp only [chk, Bool.false_eq_true] at h; done)
  rename_i y p
  match args, kws, h with
  | [a', .Name z pz], [], h =>
    simp only [chk, Bool.and_eq_true] at h
    obtain ⟨⟨⟨⟨⟨⟨h1, h2⟩, h3⟩, h4⟩, h5⟩, h6⟩, h7⟩ := h
    have e0 := sEq_ok h1
    have e1 := sEq_ok h4
    subst e0 e1
    obtain ⟨g1, g2⟩ := gfree_ok S h2
    obtain ⟨g3, g4⟩ := gfree_ok S h5
    obtain ⟨d1, d2⟩ := tyStr_dbg t h3
    have PT : PE X (.Name (tyStr t) pz) (tC (.ty (tyName t))) := pe_bltn g3 g4 (boot_ty t h3) rfl d1 d2
    have A : PA X [a', .Name (tyStr t) pz] (tCons (RdE X.K nm (ev P (run P n) a)) (tCons (tC (.ty (tyName t))) tNil)) := pa_cons (ha S h7).1 (pa_cons PT pa_nil (star_cons rfl _ _)) (star_cons h6 _ _)
    refine mkPlain ((pe_callB call_isi g1 g2 boot_isinstance A (by decide) (by decide) (star_cons h6 _ _) (star_any rfl _ _)).imp ?_) rfl
    rintro σ H Q ⟨vw, hh, δ, r, h', sr, en, e, k⟩
    simp only [ev] at e
    obtain ⟨⟨od, oh⟩, e1, e⟩ := Option.bind_eq_some_iff.mp e
    obtain ⟨b, e2, e3⟩ := Option.map_eq_some_iff.mp e
    simp only [Prod.mk.injEq] at e3
    obtain ⟨rfl, rfl⟩ := e3
    refine ⟨vw, hh, δ, od, oh, sr, en, e1, fun vw1 H1 v st1 sr1 rv => ?_⟩
    obtain ⟨u, u1, u2⟩ := isiF_ty e2
    obtain ⟨y1, y2⟩ := tyx_of sr1 rv u1
    refine ⟨v, _, _, _, b, rfl, .ty (tyName t), y1, ?_, k vw1 H1 _ st1 sr1 (.bl _)⟩
    rw [u2]
    exact kit_ty (kit_tab u t y2 (fun c q => by subst q; cases h3) (fun q => by subst q; cases h3))
  | [], _, h => simp [chk] at h
  | [_], _, h => simp [chk] at h
  | _ :: _ :: _ :: _, _, h => simp [chk] at h
  | [_, z], _ :: _, h => cases z <;> simp [chk] at h
theorem ok_idx {a b : E} (ha : OkE P G nm ad fdo n a) (hb : OkE P G nm ad fdo n b) : OkE P G nm ad fdo n (.idx a b) := fun {x X T} S h => by
  cases x <;> try (simp only [chk, Bool.false_eq_true] at h; done)
  simp only [chk, Bool.and_eq_true] at h
  obtain ⟨⟨h1, h2⟩, h3⟩ := h
  refine mkPlain ((pe_ix (ixs (nm := nm) (by have := S.hu; omega)) (ha S h2).1 (hb S h3).1 (ix_plain h1)).imp fun σ H Q q => rd_two (g := fun h x y => idxF h x y) ?_) rfl
  simpa only [ev] using q
/-! ### slices -/
theorem rd_slc {K : PySem.W.Frag} {ga : Ev → Hh → Option (D × Hh)} {tl th : TO} {σ : L2.St} {H : Hp} {Q : VK} {vw : Vw} {hh : Hh} {δ : Ev} {ad' : D} {ah : Hh} (sr : SR K nm vw H hh) (en : EnvR K vw σ δ) (e : ga δ hh = some (ad', ah))
    (k : ∀ vw1 H1 v, Stp vw H vw1 H1 → SR K nm vw1 H1 ah → Rep K vw1 v ad' → tl σ H1 fun l H2 => th σ H2 fun u H3 => RdL K nm v l u H3 Q) : tSl (RdL K nm) (RdE K nm ga) tl th σ H Q :=
  ⟨vw, hh, δ, ad', ah, sr, en, e, k⟩
theorem ok_sl {a lo hi : E} (ha : OkE P G nm ad fdo n a) (hl : OkE P G nm ad fdo n lo) (hh' : OkE P G nm ad fdo n hi) : OkE P G nm ad fdo n (.sl a lo hi) := fun {x X T} S h => by
  cases x <;> try (simp only [chk, Bool.false_eq_true] at h; done)
  rename_i a' s' pos
  cases s' <;> try (simp only [chk, Bool.false_eq_true] at h; done)
  rename_i l' u' st' p2
  match l', u', st', h with
  | some lo', some hi', none, h =>
    simp only [chk, Bool.and_eq_true] at h
    obtain ⟨⟨h1, h2⟩, h3⟩ := h
    refine mkPlain ((pe_slice (sls (nm := nm)) (ha S h1).1 (po_some (hl S h2).1) (po_some (hh' S h3).1)).imp ?_) rfl
    rintro σ H Q ⟨vw, hh, δ, r, h', sr, en, e, k⟩
    simp only [ev] at e
    obtain ⟨⟨pd, ph⟩, e1, e⟩ := Option.bind_eq_some_iff.mp e
    obtain ⟨⟨qd, qh⟩, e2, e⟩ := Option.bind_eq_some_iff.mp e
    obtain ⟨⟨rd, rh⟩, e3, e⟩ := Option.bind_eq_some_iff.mp e
    refine ⟨vw, hh, δ, pd, ph, sr, en, e1, fun vw1 H1 v st1 sr1 rv => ?_⟩
    refine ⟨vw1, ph, δ, qd, qh, sr1, en.mono st1.le, e2, fun vw2 H2 x st2 sr2 rx => ?_⟩
    cases rx <;> simp only [reduceCtorEq] at e
    refine ⟨_, rfl, ?_⟩
    refine ⟨vw2, qh, δ, rd, rh, sr2, (en.mono st1.le).mono st2.le, e3, fun vw3 H3 y st3 sr3 ry => ?_⟩
    cases ry <;> simp only [reduceCtorEq] at e
    obtain ⟨z, e4, e5⟩ := Option.map_eq_some_iff.mp e
    simp only [Prod.mk.injEq] at e5
    obtain ⟨rfl, rfl⟩ := e5
    exact ⟨_, rfl, vw3, rh, pd, z, sr3, (rv.mono st2.le).mono st3.le, e4, fun vw4 H4 w st4 sr4 rw' => k vw4 H4 w (st1.trans (st2.trans (st3.trans st4))) sr4 rw'⟩
  | none, u2, s2, h => cases u2 <;> cases s2 <;> simp [chk] at h
  | some _, none, s2, h => cases s2 <;> simp [chk] at h
  | some _, some _, some _, h => simp [chk] at h
theorem ok_slT {a lo : E} (ha : OkE P G nm ad fdo n a) (hl : OkE P G nm ad fdo n lo) : OkE P G nm ad fdo n (.slT a lo) := fun {x X T} S h => by
  cases x <;> try (simp only [chk, Bool.false_eq_true] at h; done)
  rename_i a' s' pos
  cases s' <;> try (simp only [chk, Bool.false_eq_true] at h; done)
  rename_i l' u' st' p2
  match l', u', st', h with
  | some lo', none, none, h =>
    simp only [chk, Bool.and_eq_true] at h
    obtain ⟨h1, h2⟩ := h
    refine mkPlain ((pe_slice (sls (nm := nm)) (ha S h1).1 (po_some (hl S h2).1) po_none).imp ?_) rfl
    rintro σ H Q ⟨vw, hh, δ, r, h', sr, en, e, k⟩
    simp only [ev] at e
    obtain ⟨⟨pd, ph⟩, e1, e⟩ := Option.bind_eq_some_iff.mp e
    obtain ⟨⟨qd, qh⟩, e2, e⟩ := Option.bind_eq_some_iff.mp e
    refine ⟨vw, hh, δ, pd, ph, sr, en, e1, fun vw1 H1 v st1 sr1 rv => ?_⟩
    refine ⟨vw1, ph, δ, qd, qh, sr1, en.mono st1.le, e2, fun vw2 H2 x st2 sr2 rx => ?_⟩
    cases rx <;> simp only [reduceCtorEq] at e
    refine ⟨_, rfl, ?_⟩
    obtain ⟨z, e4, e5⟩ := Option.map_eq_some_iff.mp e
    simp only [Prod.mk.injEq] at e5
    obtain ⟨rfl, rfl⟩ := e5
    exact ⟨vw2, qh, pd, z, sr2, rv.mono st2.le, e4, fun vw4 H4 w st4 sr4 rw' => k vw4 H4 w (st1.trans (st2.trans st4)) sr4 rw'⟩
  | none, u2, s2, h => cases u2 <;> cases s2 <;> simp [chk] at h
  | some _, some _, s2, h => cases s2 <;> simp [chk] at h
  | some _, none, some _, h => simp [chk] at h
theorem ok_slH {a hi : E} (ha : OkE P G nm ad fdo n a) (hl : OkE P G nm ad fdo n hi) : OkE P G nm ad fdo n (.slH a hi) := fun {x X T} S h => by
  cases x <;> try (simp only [chk, Bool.false_eq_true] at h; done)
  rename_i a' s' pos
  cases s' <;> try (simp only [chk, Bool.false_eq_true] at h; done)
  rename_i l' u' st' p2
  match l', u', st', h with
  | none, some hi', none, h =>
    simp only [chk, Bool.and_eq_true] at h
    obtain ⟨h1, h2⟩ := h
    refine mkPlain ((pe_slice (sls (nm := nm)) (ha S h1).1 po_none (po_some (hl S h2).1)).imp ?_) rfl
    rintro σ H Q ⟨vw, hh, δ, r, h', sr, en, e, k⟩
    simp only [ev] at e
    obtain ⟨⟨pd, ph⟩, e1, e⟩ := Option.bind_eq_some_iff.mp e
    obtain ⟨⟨qd, qh⟩, e2, e⟩ := Option.bind_eq_some_iff.mp e
    refine ⟨vw, hh, δ, pd, ph, sr, en, e1, fun vw1 H1 v st1 sr1 rv => ?_⟩
    refine ⟨vw1, ph, δ, qd, qh, sr1, en.mono st1.le, e2, fun vw2 H2 x st2 sr2 rx => ?_⟩
    cases rx <;> simp only [reduceCtorEq] at e
    refine ⟨_, rfl, ?_⟩
    obtain ⟨z, e4, e5⟩ := Option.map_eq_some_iff.mp e
    simp only [Prod.mk.injEq] at e5
    obtain ⟨rfl, rfl⟩ := e5
    exact ⟨vw2, qh, pd, z, sr2, rv.mono st2.le, e4, fun vw4 H4 w st4 sr4 rw' => k vw4 H4 w (st1.trans (st2.trans st4)) sr4 rw'⟩
  | some _, u2, s2, h => cases u2 <;> cases s2 <;> simp [chk] at h
  | none, none, s2, h => cases s2 <;> simp [chk] at h
  | none, some _, some _, h => simp [chk] at h
/-! ### xs.append(e) -/
theorem ok_app {o e0 : E} (ho : OkE P G nm ad fdo n o) (he : OkE P G nm ad fdo n e0) : OkE P G nm ad fdo n (.app o e0) := fun {x X T} S h => by
  cases x <;> try (simp only [chk, Bool.false_eq_true] at h; done)
  rename_i fn args kws pos
  cases fn <;> try (simp only [chk, Bool.false_eq_true] at h; done)
  rename_i o' m apos
  match args, kws, h with
  | [a'], [], h =>
    simp only [chk, Bool.and_eq_true] at h
    obtain ⟨⟨⟨⟨⟨h1, h2⟩, h3⟩, h4⟩, h5⟩, h6⟩ := h
    have e0 := sEq_ok h1
    subst e0
    have A : PA X [a'] (tCons (RdE X.K nm (ev P (run P n) e0)) tNil) := pa_cons (he S h6).1 pa_nil (star_cons h4 _ _)
    have few : ((backTo pos (starEach [a'] X.env)).all (fun x => !x.1) && (backToKw pos (keywordEach [] X.env)).all (fun x => x.1.isSome) && decide (([a'] : List Expr).length + ([] : List Keyword).length + (if ([] : List Keyword).isEmpty then 0 else 1) < 30)) = true := by
      rw [star_all (by simp [h4])]; rfl
    refine mkPlain ((pe_bm PySem.F.plainAttrs_list PySem.F.slot_list_append PySem.F.type_list_append mt_append (ho S h5).1 A (base_plain h2 _ _) few h3 (star_cons h4 _ _) (star_any rfl _ _)).imp ?_) rfl
    rintro σ H Q ⟨vw, hh, δ, r, h', sr, en, e, k⟩
    simp only [ev] at e
    obtain ⟨⟨od, oh⟩, e1, e⟩ := Option.bind_eq_some_iff.mp e
    obtain ⟨⟨qd, qh⟩, e2, e⟩ := Option.bind_eq_some_iff.mp e
    refine ⟨vw, hh, δ, od, oh, sr, en, e1, fun vw1 H1 v st1 sr1 rv => ?_⟩
    cases rv with
    | @ref a l hl =>
      dsimp only at e
      cases hc1 : oh[l]? with
      | none => rw [hc1] at e; simp at e
      | some ob1 =>
        cases ob1 with
        | lst ys1 =>
          obtain ⟨vs1, hH1, _⟩ := sr1.ob _ _ _ hc1 hl
          refine ⟨.inl ⟨rfl, vs1, SqL.of hH1⟩, ?_⟩
          refine ⟨vw1, oh, δ, qd, qh, sr1, en.mono st1.le, e2, fun vw2 H2 y st2 sr2 ry => ?_⟩
          rw [hc1] at e
          cases hc : qh[l]? with
          | none => rw [hc] at e; cases e
          | some ob =>
            rw [hc] at e
            cases ob with
            | lst ys =>
              simp only [Option.ite_none_right_eq_some, Option.some.injEq, Prod.mk.injEq] at e
              obtain ⟨hlim, rfl, rfl⟩ := e
              have hl2 := st2.le.at hl
              obtain ⟨vs, hH, hr⟩ := sr2.ob _ _ _ hc hl2
              refine ⟨a, vs, y, rfl, rfl, hH, by rw [hr.length]; exact lim_lt hlim, ?_⟩
              have stw := sr2.stW (.lst (vs ++ [y])) hl2
              exact k vw2 _ _ (st1.trans (st2.trans stw)) (sr2.write hl2 ⟨_, upd_same, hr.append (.cons ry .nil)⟩) .non
            | _ => cases e
        | _ => rw [hc1] at e; simp at e
    | _ => cases e
  | [], _, h => simp [chk] at h
  | _ :: _ :: _, _, h => simp [chk] at h
  | [_], _ :: _, h => simp [chk] at h
end
end VI

/-! VI, part J2: static calls, keywords, an own __contains__, dict(zip(text, tuple)). -/
namespace VI
open PySem L2 PyProof.Rows
section
variable {P : Pg} {G : Gm} {nm : Nm} {ad : Nat → Addr} {fdo : Nat → FuncData} {n : Nat}
def OkK (P : Pg) (G : Gm) (nm : Nm) (ad : Nat → Addr) (fdo : Nat → FuncData) (n : Nat) (es : EL) : Prop := ∀ {kws : List Keyword} {X : Cx} {T : Tx}, Sit P G nm ad fdo n X T → chks P G T es (kws.map (·.value)) = true →
  PK X kws (RdA X.K nm (evs P (run P n) es))
theorem pk_imp {X : Cx} {kws : List Keyword} {t t' : TA} (h : PK X kws t) (i : ∀ σ H Q, t' σ H Q → t σ H Q) : PK X kws t' := ⟨fun pos pins s σ H Q I q => h.run pos pins s σ H Q I (i σ H Q q)⟩
theorem ok_knil : OkK P G nm ad fdo n .nil := fun {kws X T} S h => by
  cases kws with
  | nil =>
    refine pk_imp pk_nil ?_
    rintro σ H Q ⟨vw, hh, δ, d, h', sr, en, e, k⟩
    simp only [evs, Option.some.injEq, Prod.mk.injEq] at e
    obtain ⟨rfl, rfl⟩ := e
    exact k vw H [] Stp.rfl sr .nil
  | cons _ _ => simp [chks] at h
theorem ok_kcons {e : E} {es : EL} (he : OkE P G nm ad fdo n e) (hs : OkK P G nm ad fdo n es) : OkK P G nm ad fdo n (.cons e es) := fun {kws X T} S h => by
  cases kws with
  | nil => simp [chks] at h
  | cons k kws =>
    obtain ⟨nmm, ex, kp⟩ := k
    simp only [List.map_cons, chks, Bool.and_eq_true] at h
    refine pk_imp (pk_cons (he S h.1).1 (hs S h.2)) ?_
    rintro σ H Q ⟨vw, hh, δ, d, h', sr, en, e, k⟩
    simp only [evs] at e
    obtain ⟨⟨pd, ph⟩, e1, e⟩ := Option.bind_eq_some_iff.mp e
    obtain ⟨⟨qd, qh⟩, e2, e3⟩ := Option.map_eq_some_iff.mp e
    simp only [Prod.mk.injEq] at e3
    obtain ⟨rfl, rfl⟩ := e3
    refine ⟨vw, hh, δ, pd, ph, sr, en, e1, fun vw1 H1 v st1 sr1 rv => ?_⟩
    refine ⟨vw1, ph, δ, qd, qh, sr1, en.mono st1.le, e2, fun vw2 H2 vs st2 sr2 rs => ?_⟩
    exact k vw2 H2 (v :: vs) (st1.trans st2) sr2 (.cons (rv.mono st2.le) rs)
theorem Reps.perm {K : PySem.W.Frag} {vw : Vw} {us ws : List V} {ds es : List D} (a : Reps K vw us ds) (b : Reps K vw ws es) : ∀ perm : List Nat, Reps K vw (permL perm us ws) (permL perm ds es) := fun perm => by
  have ab := a.append b
  unfold permL
  induction perm with
  | nil => exact .nil
  | cons i perm ih =>
    rw [List.filterMap_cons, List.filterMap_cons]
    cases q : (ds ++ es)[i]? with
    | none =>
      have q2 : (us ++ ws)[i]? = none := by
        cases z : (us ++ ws)[i]? with
        | none => rfl
        | some v =>
          obtain ⟨d, w, _⟩ := ab.atV z
          rw [q] at w; cases w
      rw [q2]; exact ih
    | some d =>
      obtain ⟨v, w, r⟩ := ab.at q
      rw [w]
      exact .cons r ih
theorem ok_stat {f : Nat} {es : EL} (hs : OkA P G nm ad fdo n es) : OkE P G nm ad fdo n (.stat f es) := fun {x X T} S h => by
  cases x <;> try (simp only [chk, Bool.false_eq_true] at h; done)
  rename_i fn args kws pos
  cases fn <;> try (simp only [chk, Bool.false_eq_true] at h; done)
  rename_i o m apos
  cases o <;> try (simp only [chk, Bool.false_eq_true] at h; done)
  rename_i y yp
  cases kws with
  | cons _ _ => simp only [chk, Bool.false_eq_true] at h
  | nil =>
    simp only [chk, Bool.and_eq_true, decide_eq_true_eq, Bool.not_eq_true'] at h
    obtain ⟨⟨⟨⟨⟨⟨⟨⟨h1, h0⟩, h2⟩, h3⟩, h4⟩, h5⟩, h6⟩, h7⟩, h8⟩ := h
    obtain ⟨d, ps, c, a1, a2, a3, a4, a5, a6⟩ := stIs_ok h1.2
    obtain ⟨⟨mc, p, sm⟩, g1⟩ := S.fac.stat f d m c y a1 a2 a4 a5 a6
    have F := S.fns f d ps a1 a3 (ngr_ok h1.1)
    have B := S.fac.bind f ps a3 h0
    have hr : Room (2 * n) X.A := S.room.mono (by omega)
    have PO : PE X (.Name y yp) (tC (.ref (nm.ca c))) := pe_glob (S.gl h2) g1 rfl (nDbg_ok h3).1
    cases args with
    | nil => cases h7
    | cons a as =>
      have h6' := h6
      rw [List.all_cons, Bool.and_eq_true] at h6'
      refine mkPlain ((pe_smeth (E := E0) (mc := mc) PO sm F hr B pass0 (hs S h8 h6) (star_cons h6'.1 _ _) (star_any h6'.2 _ _) (meth_tree rfl h6 (by omega) h4)).imp ?_) rfl
      rintro σ H Q ⟨vw, hh, δ, r, h', sr, en, e, k⟩
      simp only [ev] at e
      obtain ⟨⟨ds, hx⟩, e1, e⟩ := Option.bind_eq_some_iff.mp e
      refine ⟨rfl, vw, hh, δ, ds, hx, sr, en, e1, fun vw1 H1 vs st1 sr1 rs => ?_⟩
      exact sp_of st1 sr1 rs e k
theorem ok_statK {f : Nat} {ks : EL} {perm : List Nat} (hs : OkK P G nm ad fdo n ks) : OkE P G nm ad fdo n (.statK f ks perm) := fun {x X T} S h => by
  cases x <;> try (simp only [chk, Bool.false_eq_true] at h; done)
  rename_i fn args kws pos
  cases fn <;> try (simp only [chk, Bool.false_eq_true] at h; done)
  rename_i o m apos
  cases o <;> try (simp only [chk, Bool.false_eq_true] at h; done)
  rename_i y yp
  cases args with
  | cons _ _ => simp only [chk, Bool.false_eq_true] at h
  | nil =>
    simp only [chk, Bool.and_eq_true, decide_eq_true_eq] at h
    obtain ⟨⟨⟨⟨⟨⟨⟨h1, h2⟩, h3⟩, h4⟩, h5⟩, h6⟩, h7⟩, h8⟩ := h
    obtain ⟨d, ps, c, a1, a2, a3, a4, a5, a6⟩ := stIs_ok h1.2
    obtain ⟨⟨mc, p, sm⟩, g1⟩ := S.fac.stat f d m c y a1 a2 a4 a5 a6
    have F := S.fns f d ps a1 a3 (ngr_ok h1.1)
    have B := S.fac.kwb f ps 0 _ perm (of_decide_eq_true h2) a3
    have hr : Room (2 * n) X.A := S.room.mono (by omega)
    have PO : PE X (.Name y yp) (tC (.ref (nm.ca c))) := pe_glob (S.gl h5) g1 rfl (nDbg_ok h6).1
    refine mkPlain ((pe_smethK (E := E0) (mc := mc) PO sm F hr B pass0 (hs S h8) h3 rfl (meth_treeK rfl rfl h3 (by simpa using h4) h7)).imp ?_) rfl
    rintro σ H Q ⟨vw, hh, δ, r, h', sr, en, e, k⟩
    simp only [ev] at e
    obtain ⟨⟨ds, hx⟩, e1, e⟩ := Option.bind_eq_some_iff.mp e
    refine ⟨rfl, vw, hh, δ, ds, hx, sr, en, e1, fun vw1 H1 vs st1 sr1 rs => ⟨?_, sp_of st1 sr1 (Reps.perm .nil rs perm) e k⟩⟩
    rw [rs.length, evs_len h8 e1, List.length_map]
    have : ∀ {l : List Keyword}, l.all (fun k => k.arg.isSome) = true → l.length = (l.filterMap (·.arg)).length := fun {l} hl => by
      induction l with
      | nil => rfl
      | cons k l ih =>
        rw [List.all_cons, Bool.and_eq_true] at hl
        obtain ⟨z, hz⟩ := Option.isSome_iff_exists.mp hl.1
        rw [List.filterMap_cons, hz]
        simp [ih hl.2]
    exact this h3
theorem kws_len : ∀ {l : List Keyword}, l.all (fun k => k.arg.isSome) = true → l.length = (l.filterMap (·.arg)).length
  | [], _ => rfl
  | k :: l, hl => by
    rw [List.all_cons, Bool.and_eq_true] at hl
    obtain ⟨z, hz⟩ := Option.isSome_iff_exists.mp hl.1
    rw [List.filterMap_cons, hz]
    simp [kws_len hl.2]
theorem ok_makeK {f : Nat} {es ks : EL} {perm : List Nat} (hs : OkA P G nm ad fdo n es) (hk : OkK P G nm ad fdo n ks) : OkE P G nm ad fdo n (.makeK f es ks perm) := fun {x X T} S h => by
  cases x <;> try (simp only [chk, Bool.false_eq_true] at h; done)
  rename_i fn args kws pos
  cases fn <;> try (simp only [chk, Bool.false_eq_true] at h; done)
  rename_i y p
  simp only [chk, Bool.and_eq_true] at h
  obtain ⟨⟨⟨⟨⟨⟨⟨⟨h1, h2⟩, h3⟩, h4⟩, h5⟩, h6⟩, h7⟩, h8⟩, h9⟩ := h
  obtain ⟨d, ps, c, a1, a3, a4, a6, a7⟩ := mkIsK_ok h1.2
  obtain ⟨g1, g2⟩ := S.fac.init f d c y a1 a4 a6 a7
  have F := S.fns f d ps a1 a3 (ngr_ok h1.1)
  have B := S.fac.kwb f ps (args.length + 1) _ perm (of_decide_eq_true h2) a3
  cases args with
  | nil => cases h7
  | cons a as =>
    have h6' := h6
    rw [List.all_cons, Bool.and_eq_true] at h6'
    refine mkPlain ((pe_makeK (E := E0) g1 F S.room (S.gl h4) g2 B pass0 (hs S h8 h6) (hk S h9) (kw_all h3 _ _) (kw_names _ _) (nDbg_ok h5).1 (star_cons h6'.1 _ _) (by rw [kw_none h3, star_any h6]; rfl)).imp ?_) rfl
    rintro σ H Q ⟨vw, hh, δ, r, h', sr, en, e, k⟩
    simp only [ev] at e
    obtain ⟨⟨ds, hx⟩, e1, e⟩ := Option.bind_eq_some_iff.mp e
    obtain ⟨⟨zs, hy⟩, e1', e⟩ := Option.bind_eq_some_iff.mp e
    rw [a1] at e
    simp only [a6] at e
    obtain ⟨⟨rd, rh⟩, e2, e⟩ := Option.bind_eq_some_iff.mp e
    refine ⟨vw, hh, δ, ds, hx, sr, en, e1, fun vw0 H0 vs st0 sr0 rs0 => ?_⟩
    refine ⟨vw0, hx, δ, zs, hy, sr0, en.mono st0.le, e1', fun vw1 H1 ws st1 sr1 rz => ⟨?_, ?_, ?_⟩⟩
    · rw [rs0.length, evs_len h8 e1]
    · rw [rz.length, evs_len h9 e1', List.length_map]; exact kws_len h3
    · intro x dx nx ndx ne
      have rs := rs0.mono st1.le
      have np : dx ∉ vw1.ρ := sr1.notin ndx
      have nF : vw1.F dx = none := sr1.ex.none ndx
      have sr2 : SR X.K nm vw1 (upd H1 dx (.own x)) hy := sr1.other _ np nF
      have nx2 : upd H1 dx (.own x) x = none := by rw [upd_ne (Ne.symm ne)]; exact nx
      have stA : Stp vw1 H1 vw1 (upd H1 dx (.own x)) := ⟨Vw.Le.rfl, fun a u e _ => by rw [upd_ne (ne_of_none e ndx)]; exact e, fun _ _ e => .inl e, fun _ e => .inl e⟩
      have stB := sr2.stM (.ins (nm.ca c) dx []) nx2
      have sr3 : SR X.K nm (vw1.newM x) (upd (upd H1 dx (.own x)) x (.ins (nm.ca c) dx [])) (hy ++ [.ins c []]) := sr2.newM nx2 ⟨dx, [], upd_same, rfl, .nil⟩
      have rx : Rep X.K (vw1.newM x) (.ref x) (.ref hy.length) := .ref (newM_at sr1.len)
      refine ⟨vw1.newM x, hy ++ [.ins c []], permL perm (.ref hy.length :: ds) zs, rd, rh, sr3, Reps.perm (.cons rx (rs.mono stB.le)) (rz.mono stB.le) perm, e2, fun vw4 H4 v st4 sr4 rv => ?_⟩
      cases rv <;> simp only [reduceCtorEq, Option.some.injEq, Prod.mk.injEq] at e
      obtain ⟨rfl, rfl⟩ := e
      exact ⟨rfl, k vw4 H4 _ (st0.trans (st1.trans (stA.trans (stB.trans st4)))) sr4 (rx.mono st4.le)⟩
theorem ok_has {neg : Bool} {f : Nat} {a o : E} (ha : OkE P G nm ad fdo n a) (ho : OkE P G nm ad fdo n o) : OkE P G nm ad fdo n (.has neg f a o) := fun {x X T} S h => by
  cases x <;> try (simp only [chk, Bool.false_eq_true] at h; done)
  rename_i l ops cs pos
  match ops, cs, h with
  | [op], [c'], h =>
    simp only [chk, Bool.and_eq_true] at h
    obtain ⟨⟨⟨⟨h1, h2⟩, h3⟩, h4⟩, h5⟩ := h
    obtain ⟨d, ps, a1, a2, a3, a4, a5⟩ := defIs_ok h3.2
    have F := S.fns f d ps a1 a3 (ngr_ok h3.1)
    have B := S.fac.bind f ps a3 a5
    have hr : Room (2 * n) X.A := S.room.mono (by omega)
    have e0 := hasOp_ok h1
    subst e0
    have op : OpR X (compareOp (if neg = true then CmpOp.NotIn else CmpOp.In)) (fun x y H Q => ∃ c, d.cls = some c ∧ R2Has (nm.ca c) neg (spI X.K nm P n f) E0 x y H Q) := OpR.by fun x y H Q ⟨c, hc, q⟩ => by
      obtain ⟨m1, m2, m3⟩ := S.fac.meth f d _ c a1 a2 a4 hc
      exact ⟨_, op_has neg m1.at_ m1.fn F hr B pass0, q⟩
    have key : ∀ σ H Q, RdE X.K nm (ev P (run P n) (.has neg f a o)) σ H Q → tOp (fun x y H Q => ∃ c, d.cls = some c ∧ R2Has (nm.ca c) neg (spI X.K nm P n f) E0 x y H Q) (RdE X.K nm (ev P (run P n) a)) (RdE X.K nm (ev P (run P n) o)) σ H Q := by
      rintro σ H Q ⟨vw, hh, δ, r, h', sr, en, e, k⟩
      simp only [ev] at e
      obtain ⟨⟨qd, qh⟩, e1, e⟩ := Option.bind_eq_some_iff.mp e
      obtain ⟨⟨od, oh⟩, e2, e⟩ := Option.bind_eq_some_iff.mp e
      obtain ⟨⟨l, c, fs⟩, e3, e⟩ := Option.bind_eq_some_iff.mp e
      rw [a1] at e
      simp only [Option.ite_none_right_eq_some] at e
      obtain ⟨hc, e⟩ := e
      obtain ⟨⟨rd, rh⟩, e4, e⟩ := Option.bind_eq_some_iff.mp e
      refine ⟨vw, hh, δ, qd, qh, sr, en, e1, fun vw1 H1 x st1 sr1 rx => ?_⟩
      refine ⟨vw1, qh, δ, od, oh, sr1, en.mono st1.le, e2, fun vw2 H2 v st2 sr2 rv => ?_⟩
      obtain ⟨a', dx, gs, ea, ed, hl, hcell, hH, hn, hrs⟩ := ins_of sr2 rv e3
      refine ⟨c, hc, a', dx, gs, ea, hH, ?_⟩
      subst ea
      refine ⟨vw2, oh, [od, qd], rd, rh, sr2, .cons rv (.cons (rx.mono st2.le) .nil), e4, fun vw3 H3 w st3 sr3 rw' => ?_⟩
      cases rw' <;> simp only [reduceCtorEq, Option.some.injEq, Prod.mk.injEq] at e
      obtain ⟨rfl, rfl⟩ := e
      exact ⟨_, rfl, k vw3 H3 _ (st1.trans (st2.trans st3)) sr3 (.bl _)⟩
    refine ⟨(pe_cmpR op (ha S h4).1 (ho S h5).1 (marks_plain h2 _)).imp key, fun _ => (pt_cmpR op (ha S h4).1 (ho S h5).1 (marks_plain h2 _)).imp fun σ H Q q => key _ _ _ q.toE, fun hb => by simp [isBo] at hb⟩
  | [], _, h => simp [chk] at h
  | [_], [], h => simp [chk] at h
  | [_], _ :: _ :: _, h => simp [chk] at h
  | _ :: _ :: _, _, h => simp [chk] at h
end
end VI

/-! VI, part J3: chains of three, dict displays, x in range(a, b). -/
namespace VI
open PySem L2 PyProof.Rows
section
variable {P : Pg} {G : Gm} {nm : Nm} {ad : Nat → Addr} {fdo : Nat → FuncData} {n : Nat}
theorem last_plain3 {b c d : Expr} (h : nset d = true) (o1 o2 o3 : CmpOp) : lastMarks [o1, o2, o3] [b, c, d] = false := marks_plain h o3
theorem ok_chain3 {o1 o2 o3 : Op} {a b c d : E} (ha : OkE P G nm ad fdo n a) (hb : OkE P G nm ad fdo n b) (hc : OkE P G nm ad fdo n c) (hd : OkE P G nm ad fdo n d) : OkE P G nm ad fdo n (.chain3 o1 o2 o3 a b c d) := fun {x X T} S h => by
  cases x <;> try (simp only [chk, Bool.false_eq_true] at h; done)
  rename_i l ops cs pos
  have hform : ∃ op op' op3 b' c' d', ops = [op, op', op3] ∧ cs = [b', c', d'] := by
    unfold chk at h
    split at h <;> first | (cases h; done) | skip
    all_goals first
      | (rename_i q1 q2; cases q2; exact ⟨_, _, _, _, _, _, rfl, rfl⟩)
      | (rename_i q1 q2; cases q1)
  obtain ⟨op, op', op3, b', c', d', rfl, rfl⟩ := hform
  simp only [chk, Bool.and_eq_true] at h
  obtain ⟨⟨⟨⟨⟨⟨⟨h1, h1'⟩, h13⟩, h0⟩, h2⟩, h3⟩, h4⟩, h5⟩ := h
  have key : ∀ σ H Q, RdE X.K nm (ev P (run P n) (.chain3 o1 o2 o3 a b c d)) σ H Q → tChain3 (RdO X.K nm fun h => op2 h o1) (RdO X.K nm fun h => op2 h o2) (RdO X.K nm fun h => op2 h o3) (RdE X.K nm (ev P (run P n) a)) (RdE X.K nm (ev P (run P n) b)) (RdE X.K nm (ev P (run P n) c)) (RdE X.K nm (ev P (run P n) d)) σ H Q := by
    rintro σ H Q ⟨vw, hh, δ, dd, h', sr, en, e, k⟩
    simp only [ev] at e
    obtain ⟨p, e1, e⟩ := Option.bind_eq_some_iff.mp e
    obtain ⟨q, e2, e⟩ := Option.bind_eq_some_iff.mp e
    obtain ⟨r, e3, e⟩ := Option.bind_eq_some_iff.mp e
    refine ⟨vw, hh, δ, p.1, p.2, sr, en, e1, fun vw1 H1 x st1 sr1 rx => ?_⟩
    refine ⟨vw1, p.2, δ, q.1, q.2, sr1, en.mono st1.le, e2, fun vw2 H2 y st2 sr2 ry => ?_⟩
    refine ⟨vw2, q.2, p.1, q.1, r, sr2, rx.mono st2.le, ry, e3, fun vw3 H3 v st3 sr3 rv => ?_⟩
    have en3 : EnvR X.K vw3 σ δ := ((en.mono st1.le).mono st2.le).mono st3.le
    cases r with
    | bl t =>
      cases rv
      cases t with
      | true =>
        refine ⟨true, rfl, ?_⟩
        obtain ⟨u, e4, e⟩ := Option.bind_eq_some_iff.mp e
        obtain ⟨r2, e5, e⟩ := Option.bind_eq_some_iff.mp e
        show (if true = true then _ else _)
        rw [if_pos rfl]
        refine ⟨vw3, q.2, δ, u.1, u.2, sr3, en3, e4, fun vw4 H4 w st4 sr4 rw' => ?_⟩
        refine ⟨vw4, u.2, q.1, u.1, r2, sr4, (ry.mono st3.le).mono st4.le, rw', e5, fun vw5 H5 v st5 sr5 rv => ?_⟩
        cases r2 with
        | bl t =>
          cases rv
          cases t with
          | true =>
            refine ⟨true, rfl, ?_⟩
            obtain ⟨u2, e6, e⟩ := Option.bind_eq_some_iff.mp e
            obtain ⟨z, e7, e8⟩ := Option.map_eq_some_iff.mp e
            simp only [Prod.mk.injEq] at e8
            obtain ⟨rfl, rfl⟩ := e8
            show (if true = true then _ else _)
            rw [if_pos rfl]
            refine ⟨vw5, u.2, δ, u2.1, u2.2, sr5, (en3.mono st4.le).mono st5.le, e6, fun vw6 H6 w2 st6 sr6 rw2 => ?_⟩
            exact ⟨vw6, u2.2, u.1, u2.1, z, sr6, (rw'.mono st5.le).mono st6.le, rw2, e7, fun vw7 H7 v st7 sr7 rv => k vw7 H7 v (st1.trans (st2.trans (st3.trans (st4.trans (st5.trans (st6.trans st7)))))) sr7 rv⟩
          | false =>
            refine ⟨false, rfl, ?_⟩
            simp only [Option.some.injEq, Prod.mk.injEq] at e
            obtain ⟨rfl, rfl⟩ := e
            show (if false = true then _ else _)
            rw [if_neg Bool.false_ne_true]
            exact k vw5 H5 _ (st1.trans (st2.trans (st3.trans (st4.trans st5)))) sr5 (.bl _)
        | _ => cases e
      | false =>
        refine ⟨false, rfl, ?_⟩
        simp only [Option.some.injEq, Prod.mk.injEq] at e
        obtain ⟨rfl, rfl⟩ := e
        show (if false = true then _ else _)
        rw [if_neg Bool.false_ne_true]
        exact k vw3 H3 _ (st1.trans (st2.trans st3)) sr3 (.bl _)
    | _ => cases e
  have O1 := ops_cmp (nm := nm) (X := X) S.hu (cpOk_ok h1)
  have O2 := ops_cmp (nm := nm) (X := X) S.hu (cpOk_ok h1')
  have O3 := ops_cmp (nm := nm) (X := X) S.hu (cpOk_ok h13)
  exact ⟨(pe_chain3 O1 O2 O3 (ha S h2).1 (hb S h3).1 (hc S h4).1 (hd S h5).1 (last_plain3 h0 _ _ _)).imp key,
    fun _ => (pt_chain3 O1 O2 O3 (ha S h2).1 (hb S h3).1 (hc S h4).1 (hd S h5).1 (last_plain3 h0 _ _ _)).imp fun σ H Q q => key _ _ _ q.toE, fun hb => by simp [isBo] at hb⟩
/-! ### {k: v, ..} -/
def OkP (P : Pg) (G : Gm) (nm : Nm) (ad : Nat → Addr) (fdo : Nat → FuncData) (n : Nat) (es : EL) : Prop := ∀ {keys : List (Option Expr)} {values : List Expr} {X : Cx} {T : Tx} {pos : Pos}, Sit P G nm ad fdo n X T → chks P G T es (ilv keys values) = true → keys.all (·.isSome) = true → keys.length = values.length →
  ∃ trs, PPs X pos keys values trs ∧ ∀ σ H Q, (∃ vw h δ d h', SR X.K nm vw H h ∧ EnvR X.K vw σ δ ∧ evs P (run P n) es δ h = some (d, h') ∧ ∀ vw' H' (ps : List (V × V)) (qs : List (D × D)), Stp vw H vw' H' → SR X.K nm vw' H' h' → pairUp d = some qs → Reps X.K vw' (ps.map (·.1)) (qs.map (·.1)) → Reps X.K vw' (ps.map (·.2)) (qs.map (·.2)) → Q ps H') → tPairs trs σ H Q
theorem ok_pnil : OkP P G nm ad fdo n .nil := fun {keys values X T pos} S h h1 h2 => by
  match keys, values, h1, h2 with
  | [], [], _, _ =>
    refine ⟨[], pps_nil, ?_⟩
    rintro σ H Q ⟨vw, hh, δ, d, h', sr, en, e, k⟩
    simp only [evs, Option.some.injEq, Prod.mk.injEq] at e
    obtain ⟨rfl, rfl⟩ := e
    exact k vw H [] [] Stp.rfl sr rfl .nil .nil
  | none :: _, _, h1, _ => simp at h1
  | some _ :: _, _ :: _, _, _ => simp [ilv, chks] at h
  | some _ :: _, [], _, h2 => simp at h2
  | [], _ :: _, _, h2 => simp at h2
theorem ok_pcons {a b : E} {r : EL} (ha : OkE P G nm ad fdo n a) (hb : OkE P G nm ad fdo n b) (hr : OkP P G nm ad fdo n r) : OkP P G nm ad fdo n (.cons a (.cons b r)) := fun {keys values X T pos} S h h1 h2 => by
  match keys, values, h1, h2, h with
  | some k' :: ks, v' :: vs, h1, h2, h =>
    simp only [ilv, chks, Bool.and_eq_true] at h
    simp only [List.all_cons, Bool.and_eq_true] at h1
    simp only [List.length_cons, Nat.add_right_cancel_iff] at h2
    obtain ⟨trs, q1, q2⟩ := hr (pos := pos) S h.2.2 h1.2 h2
    refine ⟨_, pps_cons (ha S h.1).1 (hb S h.2.1).1 q1, ?_⟩
    rintro σ H Q ⟨vw, hh, δ, d, h', sr, en, e, k⟩
    simp only [evs] at e
    obtain ⟨p, e1, e⟩ := Option.bind_eq_some_iff.mp e
    obtain ⟨q, e2, e3⟩ := Option.map_eq_some_iff.mp e
    obtain ⟨p2, e4, e5⟩ := Option.bind_eq_some_iff.mp e2
    obtain ⟨q3, e6, e7⟩ := Option.map_eq_some_iff.mp e5
    subst e7
    simp only [Prod.mk.injEq] at e3
    obtain ⟨rfl, rfl⟩ := e3
    refine ⟨vw, hh, δ, p.1, p.2, sr, en, e1, fun vw1 H1 x st1 sr1 rx => ?_⟩
    refine ⟨vw1, p.2, δ, p2.1, p2.2, sr1, en.mono st1.le, e4, fun vw2 H2 y st2 sr2 ry => ?_⟩
    refine q2 σ H2 _ ⟨vw2, p2.2, δ, q3.1, q3.2, sr2, (en.mono st1.le).mono st2.le, e6, fun vw3 H3 ps qs st3 sr3 hp r1 r2 => ?_⟩
    refine k vw3 H3 ((x, y) :: ps) ((p.1, p2.1) :: qs) (st1.trans (st2.trans st3)) sr3 (by simp [pairUp, hp]) (.cons ((rx.mono st2.le).mono st3.le) r1) (.cons (ry.mono st3.le) r2)
  | none :: _, _, h1, _, _ => simp at h1
  | some _ :: _, [], _, h2, _ => simp at h2
  | [], _, _, _, h => simp [ilv, chks] at h
theorem ok_pone {a : E} : OkP P G nm ad fdo n (.cons a .nil) := fun {keys values X T pos} S h h1 h2 => by
  exfalso
  match keys, values, h1, h2, h with
  | some k' :: ks, v' :: vs, h1, h2, h => simp [ilv, chks] at h
  | none :: _, _, h1, _, _ => simp at h1
  | some _ :: _, [], _, h2, _ => simp at h2
  | [], _, _, _, h => simp [ilv, chks] at h
end
end VI

/-! VI, part K: walks and comprehensions. -/
namespace VI
open PySem L2 PyProof.Rows
section
variable {K : PySem.W.Frag} {nm : Nm} {vw vw' : Vw} {H H' : Hp} {h : Hh} {p : Addr} {o : HO}
theorem Stp.priv (s : Stp vw H vw' H') (h0 : H p = some o) (h1 : p ∉ vw.ρ) (h2 : vw.F p = none) : H' p = some o ∧ p ∉ vw'.ρ ∧ vw'.F p = none := by
  refine ⟨s.keep p o h0 h1, fun q => ?_, ?_⟩
  · rcases s.newR p q with q | q
    · exact h1 q
    · rw [q] at h0; cases h0
  · cases q : vw'.F p with
    | none => rfl
    | some u =>
      rcases s.newF p u q with z | z | z
      · rw [h2] at z; cases z
      · exact absurd z h1
      · rw [z] at h0; cases h0
theorem Stp.updP (s : Stp vw H vw' H') (hp : H p = none) (u : HO) : Stp vw H vw' (upd H' p u) :=
  ⟨s.le, fun a x e ha => by rw [upd_ne (ne_of_none e hp)]; exact s.keep a x e ha, s.newF, s.newR⟩
theorem Stp.addF (s : Stp vw H vw' H') (hp : H p = none) (h2 : vw'.F p = none) (u : HO) : Stp vw H (vw'.newF p u) H' := by
  refine ⟨s.le.trans ⟨⟨[], by simp [Vw.newF]⟩, fun a x e => ?_⟩, s.keep, fun a x e => ?_, s.newR⟩
  · show upd vw'.F p u a = some x
    rw [upd_ne (ne_of_none e h2)]; exact e
  · have e : upd vw'.F p u a = some x := e
    by_cases q : a = p
    · subst q; exact .inr (.inr hp)
    · rw [upd_ne q] at e; exact s.newF a x e
theorem leAdd (h2 : vw.F p = none) (u : HO) : vw.Le (vw.newF p u) := ⟨⟨[], by simp [Vw.newF]⟩, fun a x e => by
  show upd vw.F p u a = some x
  rw [upd_ne (ne_of_none e h2)]; exact e⟩
theorem SR.addF (s : SR K nm vw H h) (hp : H p = some o) (h1 : p ∉ vw.ρ) (h2 : vw.F p = none) : SR K nm (vw.newF p o) H h := by
  refine ⟨fun a u e => ?_, s.len, s.nd, fun a ha => ?_, fun l ob a e e2 => (s.ob l ob a e e2).mono (leAdd h2 o) rfl⟩
  · have e : upd vw.F p o a = some u := e
    by_cases ha : a = p
    · subst ha; rw [upd_same] at e; rw [← e]; exact hp
    · rw [upd_ne ha] at e; exact s.ex _ _ e
  · show upd vw.F p o a = none
    have ne : a ≠ p := fun q => h1 (q ▸ ha)
    rw [upd_ne ne]; exact s.nf a ha
end
theorem put_reps {K : PySem.W.Frag} {vw : Vw} (k : Key) {v : V} {d : D} (rv : Rep K vw v d) {kvs : List (Key × V)} {vs : List D} (r : Reps K vw (kvs.map (·.2)) vs) :
    ((putK kvs k v).map fun p => keyD p.1) = (putAt (keyD k) d (kvs.map fun p => keyD p.1) vs).1 ∧ Reps K vw ((putK kvs k v).map (·.2)) (putAt (keyD k) d (kvs.map fun p => keyD p.1) vs).2 := by
  have hany : (kvs.map fun p => keyD p.1).any (fun x => D.eqv x (keyD k)) = kvs.any fun kv => decide (kv.1 = k) := by
    rw [List.any_map]
    congr 1
    funext p
    exact keyD_eqv p.1 k
  unfold putK putAt
  rw [hany]
  by_cases hk : (kvs.any fun kv => decide (kv.1 = k)) = true
  · rw [if_pos hk, if_pos hk]
    refine ⟨?_, ?_⟩
    · rw [List.map_map]
      congr 1
      funext p
      show keyD (if p.1 = k then (p.1, v) else p).1 = keyD p.1
      split <;> rfl
    · clear hk hany
      induction kvs generalizing vs with
      | nil => cases r; exact .nil
      | cons p kvs ih =>
        cases r with
        | cons r rs =>
          simp only [List.map_cons, repl, keyD_eqv]
          by_cases e : p.1 = k
          · simp only [e, if_true, decide_true]
            exact .cons rv (ih rs)
          · simp only [e, if_false, decide_false, Bool.false_eq_true]
            exact .cons r (ih rs)
  · rw [if_neg hk, if_neg hk]
    refine ⟨by simp, ?_⟩
    rw [List.map_append]
    exact r.append (.cons rv .nil)
section
variable {P : Pg} {G : Gm} {nm : Nm} {ad : Nat → Addr} {fdo : Nat → FuncData} {n : Nat}
theorem ok_seq {e : E} (he : OkE P G nm ad fdo n e) : OkI P G nm ad fdo n (.seq e) := fun {x tg X T} S h => by
  have h : chk P G T e x = true := by simpa only [chkI] using h
  have E := (he S h).1
  refine PI.by fun σ H R q => ?_
  obtain ⟨vw, hh, δ, xs, h', sr, en, ee, k⟩ := q
  simp only [evI] at ee
  obtain ⟨⟨d, dh⟩, e1, e2⟩ := Option.bind_eq_some_iff.mp ee
  obtain ⟨ys, e3, e4⟩ := Option.map_eq_some_iff.mp e2
  simp only [Prod.mk.injEq] at e4
  obtain ⟨rfl, rfl⟩ := e4
  cases d <;> simp only [seqOf, reduceCtorEq, Option.some.injEq] at e3
  · subst e3
    refine ⟨_, pi_str E, vw, hh, δ, _, dh, sr, en, e1, fun vw1 H1 v st1 sr1 rv => ?_⟩
    cases rv
    exact ⟨_, rfl, k vw1 H1 _ st1 sr1 (wd_str _)⟩
  · subst e3
    refine ⟨_, pi_tup E, vw, hh, δ, _, dh, sr, en, e1, fun vw1 H1 v st1 sr1 rv => ?_⟩
    cases rv with
    | tup ht hr => exact ⟨_, rfl, ⟨_, sr1.ex.sqT ht⟩, k vw1 H1 _ st1 sr1 (wd_tup ht hr)⟩
  · subst e3
    refine ⟨_, pi_list E, vw, hh, δ, _, dh, sr, en, e1, fun vw1 H1 v st1 sr1 rv => ?_⟩
    cases rv with
    | lst ht hr => exact ⟨_, rfl, ⟨_, SqL.of (sr1.ex _ _ ht)⟩, k vw1 H1 _ st1 sr1 (wd_list (SqL.of ht) hr)⟩
  · subst e3
    refine ⟨_, pi_list E, vw, hh, δ, _, dh, sr, en, e1, fun vw1 H1 v st1 sr1 rv => ?_⟩
    cases rv with
    | scr ht hr => exact ⟨_, rfl, ⟨_, sr1.ex.sqL ht⟩, k vw1 H1 _ st1 sr1 (wd_list ht hr)⟩
theorem within_ok {i : Int} (h : within i = true) : -(2 ^ 62) ≤ i ∧ i < 2 ^ 62 := by
  have h : i.natAbs < 4611686018427387904 := Nat.blt_eq.mp h
  constructor <;> omega
theorem ok_range1 {a : E} (ha : OkE P G nm ad fdo n a) : OkI P G nm ad fdo n (.range1 a) := fun {x tg X T} S h => by
  cases x <;> try (simp only [chkI, Bool.false_eq_true] at h; done)
  rename_i fn args kws pos
  cases fn <;> try (simp only [chkI, Bool.false_eq_true] at h; done)
  rename_i y p
  match args, kws, h with
  | [a'], [], h =>
    simp only [chkI, Bool.and_eq_true] at h
    obtain ⟨⟨⟨h1, h2⟩, h3⟩, h4⟩ := h
    have e0 := sEq_ok h1
    subst e0
    obtain ⟨g1, g2⟩ := gfree_ok S h2
    have A : PA X [a'] (tCons (RdE X.K nm (ev P (run P n) a)) tNil) := pa_cons (ha S h4).1 pa_nil (star_cons h3 _ _)
    refine PI.by fun σ H R q => ⟨_, pi_range1 g1 g2 A (by rw [star_cons h3]; rfl), ?_⟩
    obtain ⟨vw, hh, δ, xs, h', sr, en, ee, k⟩ := q
    simp only [evI] at ee
    obtain ⟨⟨d, dh⟩, e1, e2⟩ := Option.bind_eq_some_iff.mp ee
    refine ⟨vw, hh, δ, d, dh, sr, en, e1, fun vw1 H1 v st1 sr1 rv => ?_⟩
    cases rv with
    | int j =>
      simp only [Option.ite_none_right_eq_some, Option.some.injEq, Prod.mk.injEq] at e2
      obtain ⟨hw, rfl, rfl⟩ := e2
      obtain ⟨w1, w2⟩ := within_ok hw
      refine ⟨_, rfl, w1, w2, k vw1 H1 _ st1 sr1 ?_⟩
      have := wd_range (K := X.K) (nm := nm) (vw := vw1) 0 j
      simpa using this
    | _ => cases e2
  | [], _, h => simp [chkI] at h
  | _ :: _ :: _, _, h => simp [chkI] at h
  | [_], _ :: _, h => simp [chkI] at h
theorem ok_range2 {a b : E} (ha : OkE P G nm ad fdo n a) (hb : OkE P G nm ad fdo n b) : OkI P G nm ad fdo n (.range2 a b) := fun {x tg X T} S h => by
  cases x <;> try (simp only [chkI, Bool.false_eq_true] at h; done)
  rename_i fn args kws pos
  cases fn <;> try (simp only [chkI, Bool.false_eq_true] at h; done)
  rename_i y p
  match args, kws, h with
  | [a', b'], [], h =>
    simp only [chkI, Bool.and_eq_true] at h
    obtain ⟨⟨⟨⟨⟨h1, h2⟩, h3⟩, h4⟩, h5⟩, h6⟩ := h
    have e0 := sEq_ok h1
    subst e0
    obtain ⟨g1, g2⟩ := gfree_ok S h2
    have A : PA X [a', b'] (tCons (RdE X.K nm (ev P (run P n) a)) (tCons (RdE X.K nm (ev P (run P n) b)) tNil)) := pa_cons (ha S h5).1 (pa_cons (hb S h6).1 pa_nil (star_cons h4 _ _)) (star_cons h3 _ _)
    refine PI.by fun σ H R q => ⟨_, pi_range2 g1 g2 A (by rw [star_cons h3, star_cons h4]; rfl) (by rw [star_cons h4]; rfl), ?_⟩
    obtain ⟨vw, hh, δ, xs, h', sr, en, ee, k⟩ := q
    simp only [evI] at ee
    obtain ⟨⟨d, dh⟩, e1, e2⟩ := Option.bind_eq_some_iff.mp ee
    obtain ⟨⟨u, uh⟩, e3, e4⟩ := Option.bind_eq_some_iff.mp e2
    refine ⟨vw, hh, δ, d, dh, sr, en, e1, fun vw1 H1 v st1 sr1 rv => ?_⟩
    refine ⟨vw1, dh, δ, u, uh, sr1, en.mono st1.le, e3, fun vw2 H2 w st2 sr2 rw' => ?_⟩
    cases rv <;> simp only [reduceCtorEq] at e4
    cases rw' <;> simp only [reduceCtorEq, Option.ite_none_right_eq_some, Option.some.injEq, Prod.mk.injEq] at e4
    obtain ⟨hw, rfl, rfl⟩ := e4
    have hw := Bool.and_eq_true_iff.mp hw
    obtain ⟨w1, w2⟩ := within_ok hw.1
    obtain ⟨w3, w4⟩ := within_ok hw.2
    exact ⟨_, _, rfl, ⟨w1, w2, w3, w4⟩, k vw2 H2 _ (st1.trans st2) sr2 (wd_range _ _)⟩
  | [], _, h => simp [chkI] at h
  | [_], _, h => simp [chkI] at h
  | _ :: _ :: _ :: _, _, h => simp [chkI] at h
  | [_, _], _ :: _, h => simp [chkI] at h
/-! ### list comprehensions -/
theorem own_eq {N : List Str} {own : List Nat} (h : (ownP N own).map (·.2) = own) : (ownP N own).map (·.2) = own := h
/-- what stands at turn i -/
structure LcAt (K : PySem.W.Frag) (nm : Nm) (lp : List D → Hh → Option (List D × Hh)) (vw1 : Vw) (H1 : Hp) (Dd : Addr) (xs full : List D) (h' : Hh) (i : Nat) (H : Hp) : Prop where
  ex : ∃ vw2 h2 accV accD r, Stp vw1 H1 vw2 H ∧ SR K nm vw2 H h2 ∧ H Dd = some (.lst accV) ∧ Reps K vw2 accV accD ∧ Dd ∉ vw2.ρ ∧ vw2.F Dd = none ∧ accD.length ≤ i ∧ lp (xs.drop i) h2 = some (r, h') ∧ full = accD ++ r
theorem drop_at {xs : List D} {i : Nat} {d : D} (h : xs[i]? = some d) : xs.drop i = d :: xs.drop (i + 1) := by
  have hl := (List.getElem?_eq_some_iff.mp h).1
  have he := (List.getElem?_eq_some_iff.mp h).2
  rw [List.drop_eq_getElem_cons hl, he]
theorem lc_reads {K : PySem.W.Frag} {tg : Tg} {own : List Nat} {it : It} {c e : E} {σ : L2.St} {H : Hp} {Q : VK} (hown : tg.slots.all (fun i => own.contains i) = true)
    (h : RdE K nm (ev P (run P n) (.lc tg own it c e)) σ H Q) : tLc (RdI K nm (evI P (run P n) it)) (gOf K tg) (RdT K nm (ev P (run P n) c)) (RdE K nm (ev P (run P n) e)) own σ H Q := by
  obtain ⟨vw, hh, δ, d, h', sr, en, ee, k⟩ := h
  simp only [ev] at ee
  obtain ⟨⟨xs, hx⟩, e1, ee⟩ := Option.bind_eq_some_iff.mp ee
  simp only [Option.ite_none_right_eq_some] at ee
  obtain ⟨hlim, ee⟩ := ee
  obtain ⟨⟨full, hf⟩, e2, e3⟩ := Option.map_eq_some_iff.mp ee
  simp only [Prod.mk.injEq] at e3
  obtain ⟨rfl, rfl⟩ := e3
  refine ⟨vw, hh, δ, xs, hx, sr, en, e1, fun vw1 H1 J st1 sr1 w => ?_⟩
  intro Dd hD
  have np : Dd ∉ vw1.ρ := sr1.notin hD
  have nF : vw1.F Dd = none := sr1.ex.none hD
  have henv : EnvR K vw1 (wipe σ own) (wipeE δ own) := (en.mono st1.le).wipe own
  refine lc_it w (LcAt K nm (lcLoop tg (ev P (run P n) c) (ev P (run P n) e) (wipeE δ own)) vw1 H1 Dd xs full hf) ?_ ?_ ?_ ?_
  · exact ⟨vw1, hx, [], [], full, Stp.rfl.updP hD _, sr1.other _ np nF, upd_same, .nil, np, nF, Nat.le_refl _, e2, rfl⟩
  · rintro i H2 _ ⟨vw2, h2, accV, accD, r, s2, sr2, _⟩
    exact s2.le.ex.trans sr2.ex
  · rintro i x H2 H3 hi ⟨vw2, h2, accV, accD, r, s2, sr2, hDd, racc, np2, nF2, hacc, elp, efull⟩ hy
    obtain ⟨vw3, dd, s3, sr3, hd, rx⟩ := hy vw2 h2 s2.le sr2
    rw [drop_at hd] at elp
    simp only [lcLoop] at elp
    obtain ⟨δ1, ep, elp⟩ := Option.bind_eq_some_iff.mp elp
    obtain ⟨⟨cd, ch⟩, ec, elp⟩ := Option.bind_eq_some_iff.mp elp
    have hs1 : ∀ j ∈ tg.slots, j ∈ own := fun j hj => by
      have := List.all_eq_true.mp hown j hj
      simpa using this
    refine put_ok sr3 rx (henv.mono (s2.le.trans s3.le)) ep fun σ2 en2 w2 => ⟨?_, ?_⟩
    · rw [w2 own hs1, wipe_idem]
    · cases cd <;> simp only [reduceCtorEq] at elp
      rename_i b
      refine ⟨vw3, h2, δ1, b, ch, sr3, en2, ec, fun vw4 H4 s4 sr4 => ?_⟩
      have st4 : Stp vw1 H1 vw4 H4 := s2.trans (s3.trans s4)
      obtain ⟨p1, p2, p3⟩ := (s3.trans s4).priv hDd np2 nF2
      cases b with
      | true =>
        show (if true = true then _ else _)
        rw [if_pos rfl]
        obtain ⟨⟨ed, eh⟩, ee1, elp⟩ := Option.bind_eq_some_iff.mp elp
        obtain ⟨⟨r2, hr2⟩, ee2, ee3⟩ := Option.map_eq_some_iff.mp elp
        simp only [Prod.mk.injEq] at ee3
        obtain ⟨rfl, rfl⟩ := ee3
        refine ⟨vw4, ch, δ1, ed, eh, sr4, en2.mono s4.le, ee1, fun vw5 H5 y s5 sr5 ry => ?_⟩
        obtain ⟨q1, q2, q3⟩ := s5.priv p1 p2 p3
        refine ⟨accV, q1, ?_, ?_⟩
        · rw [racc.length]; exact lim_lt (by omega)
        · exact ⟨vw5, eh, accV ++ [y], accD ++ [ed], r2, (st4.trans s5).updP hD _, sr5.other _ q2 q3, upd_same, ((racc.mono (s3.le.trans (s4.le.trans s5.le))).append (.cons ry .nil)), q2, q3, by simp; omega, ee2, by rw [efull]; simp⟩
      | false =>
        show (if false = true then _ else _)
        rw [if_neg Bool.false_ne_true]
        exact ⟨vw4, ch, accV, accD, r, st4, sr4, p1, racc.mono (s3.le.trans s4.le), p2, p3, by omega, elp, efull⟩
  · rintro H2 ⟨vw2, h2, accV, accD, r, s2, sr2, hDd, racc, np2, nF2, hacc, elp, efull⟩
    rw [List.drop_length] at elp
    simp only [lcLoop, Option.some.injEq, Prod.mk.injEq] at elp
    obtain ⟨rfl, rfl⟩ := elp
    rw [List.append_nil] at efull
    subst efull
    have le := leAdd nF2 (.lst accV)
    exact k (vw2.newF Dd (.lst accV)) H2 _ (st1.trans (s2.addF hD nF2 _)) (sr2.addF hDd np2 nF2) (.lst upd_same (racc.mono le))
theorem pts_of {X : Cx} {ifs : List Expr} {t t' : TT} (h : PTs X ifs t) (i : ∀ σ H Q, t' σ H Q → t σ H Q) : PTs X ifs t' := ⟨fun pins s σ H Q I q => h.run pins s σ H Q I (i σ H Q q)⟩
theorem ok_lc {tg : Tg} {own : List Nat} {it : It} {c e : E} (hi : OkI P G nm ad fdo n it) (hc : OkE P G nm ad fdo n c) (he : OkE P G nm ad fdo n e) : OkE P G nm ad fdo n (.lc tg own it c e) := fun {x X T} S h => by
  cases x <;> try (simp only [chk, Bool.false_eq_true] at h; done)
  rename_i e' gens scope pos
  match gens, h with
  | [⟨tg', it', ifs, ia⟩], h =>
    simp only [chk, Bool.and_eq_true, decide_eq_true_eq] at h
    obtain ⟨⟨⟨⟨⟨⟨⟨⟨h1, h2⟩, h3⟩, h4⟩, h5⟩, h6⟩, h7⟩, h8⟩, h9⟩ := h
    subst h1
    have hT : ∀ (s : Shared) (H : Hp) (C : Addr) (cl : List (Str × Addr)) (fp : List Addr), PTs (X.blk s H scope (compEnvC scope cl C X.env) fp) ifs (RdT X.K nm (ev P (run P n) c)) := fun s H C cl fp => by
      match ifs, h8 with
      | [], h8 =>
        have hc0 : c = .cst (.bl true) := isC0_ok h8
        subst hc0
        refine pts_of pts_nil ?_
        rintro σ H Q ⟨vw, hh, δ, b, h', sr, en, e, k⟩
        simp only [ev, Option.some.injEq, Prod.mk.injEq, D.bl.injEq] at e
        obtain ⟨rfl, rfl⟩ := e
        exact k vw H Stp.rfl sr
      | [c'], h8 =>
        simp only [Bool.and_eq_true] at h8
        exact pts_one ((hc (S.blk s H C cl fp scope) h8.2).2.1 h8.1)
      | _ :: _ :: _, h8 => cases h8
    have base := pe_lc (pos := pos) (elt := e') (g := gOf X.K tg) (tt := RdT X.K nm (ev P (run P n) c)) (te := RdE X.K nm (ev P (run P n) e)) S.calm (by rw [S.N]; exact S.nd) (hi (tg := tg') S h7) (by rw [S.N, S.sc]; exact blkOk_by h3) (fun s H C cl fp => chkG_ok (S.blk s H C cl fp scope) h6) hT (fun s H C cl fp => (he (S.blk s H C cl fp scope) h9).1) (fold_plain h2 _)
    rw [h4] at base
    exact mkPlain (base.imp fun σ H Q q => lc_reads h5 q) rfl
  | [], h => simp [chk] at h
  | _ :: _ :: _, h => simp [chk] at h
/-! ### dict comprehensions -/
structure DcAt (K : PySem.W.Frag) (nm : Nm) (lp : List D → List D × List D → Hh → Option ((List D × List D) × Hh)) (vw1 : Vw) (H1 : Hp) (Dd : Addr) (xs : List D) (full : List D × List D) (h' : Hh) (i : Nat) (H : Hp) : Prop where
  ex : ∃ vw2 h2 kvs vs, Stp vw1 H1 vw2 H ∧ SR K nm vw2 H h2 ∧ H Dd = some (.dK kvs) ∧ Reps K vw2 (kvs.map (·.2)) vs ∧ Dd ∉ vw2.ρ ∧ vw2.F Dd = none ∧ kvs.length ≤ i ∧ lp (xs.drop i) (kvs.map (fun p => keyD p.1), vs) h2 = some (full, h')
theorem dc_reads {K : PySem.W.Frag} {tg : Tg} {own : List Nat} {it : It} {kx vx : E} {σ : L2.St} {H : Hp} {Q : VK} (hown : tg.slots.all (fun i => own.contains i) = true)
    (h : RdE K nm (ev P (run P n) (.dc tg own it kx vx)) σ H Q) : tDc (RdI K nm (evI P (run P n) it)) (gOf K tg) tYes (RdE K nm (ev P (run P n) kx)) (RdE K nm (ev P (run P n) vx)) own σ H Q := by
  obtain ⟨vw, hh, δ, d, h', sr, en, ee, k⟩ := h
  simp only [ev] at ee
  obtain ⟨⟨xs, hx⟩, e1, ee⟩ := Option.bind_eq_some_iff.mp ee
  simp only [Option.ite_none_right_eq_some] at ee
  obtain ⟨hlim, ee⟩ := ee
  obtain ⟨⟨⟨fk, fv⟩, hf⟩, e2, e3⟩ := Option.map_eq_some_iff.mp ee
  simp only [Prod.mk.injEq] at e3
  obtain ⟨rfl, rfl⟩ := e3
  refine ⟨vw, hh, δ, xs, hx, sr, en, e1, fun vw1 H1 J st1 sr1 w => ?_⟩
  intro Dd hD
  have np : Dd ∉ vw1.ρ := sr1.notin hD
  have nF : vw1.F Dd = none := sr1.ex.none hD
  have henv : EnvR K vw1 (wipe σ own) (wipeE δ own) := (en.mono st1.le).wipe own
  have hs1 : ∀ j ∈ tg.slots, j ∈ own := fun j hj => by
    have := List.all_eq_true.mp hown j hj
    simpa using this
  let Pv := DcAt K nm (dcLoop tg (ev P (run P n) kx) (ev P (run P n) vx) (wipeE δ own)) vw1 H1 Dd xs (fk, fv) hf
  have hG : ∀ i H, Pv i H → Ex vw1.F H := by
    rintro i H2 ⟨vw2, h2, kvs, vs, s2, sr2, _⟩
    exact s2.le.ex.trans sr2.ex
  refine ⟨fun i m H => m = xs.length - i ∧ i ≤ xs.length ∧ Pv i H, ⟨xs.length, by simp, Nat.zero_le _, ?_⟩, ?_⟩
  · exact ⟨vw1, hx, [], [], Stp.rfl.updP hD _, sr1.other _ np nF, upd_same, .nil, np, nF, Nat.le_refl _, e2⟩
  · rintro i m H2 ⟨rfl, hi, pv⟩
    have q := hG i H2 pv
    by_cases hlt : i < xs.length
    · refine .inr ⟨w.goes i H2 hlt q, Pv (i + 1), fun H' p' => ⟨xs.length - (i + 1), by omega, rfl, hlt, p'⟩, fun x H3 y => ?_⟩
      have hy := w.yields i H2 x H3 hlt q y
      obtain ⟨vw2, h2, kvs, vs, s2, sr2, hDd, racc, np2, nF2, hacc, elp⟩ := pv
      obtain ⟨vw3, dd, s3, sr3, hd, rx⟩ := hy vw2 h2 s2.le sr2
      rw [drop_at hd] at elp
      simp only [dcLoop] at elp
      obtain ⟨δ1, ep, elp⟩ := Option.bind_eq_some_iff.mp elp
      obtain ⟨⟨cd, ch⟩, ec, elp⟩ := Option.bind_eq_some_iff.mp elp
      obtain ⟨⟨vd, vh⟩, ev', elp⟩ := Option.bind_eq_some_iff.mp elp
      simp only [Option.ite_none_right_eq_some] at elp
      obtain ⟨hkey, elp⟩ := elp
      refine put_ok sr3 rx (henv.mono (s2.le.trans s3.le)) ep fun σ2 en2 w2 => ⟨?_, ?_⟩
      · rw [w2 own hs1, wipe_idem]
      · simp only [tYes, if_true]
        refine ⟨vw3, h2, δ1, cd, ch, sr3, en2, ec, fun vw4 H4 yk s4 sr4 rk => ?_⟩
        refine ⟨vw4, ch, δ1, vd, vh, sr4, en2.mono s4.le, ev', fun vw5 H5 z s5 sr5 rz => ?_⟩
        obtain ⟨kk, hk1, hk2⟩ := key_of' rk hkey
        obtain ⟨q1, q2, q3⟩ := (s3.trans (s4.trans s5)).priv hDd np2 nF2
        refine ⟨kvs, kk, hk1, q1, lim_lt (by omega), ?_⟩
        have racc5 := racc.mono (s3.le.trans (s4.le.trans s5.le))
        obtain ⟨r1, r2⟩ := put_reps kk rz racc5
        subst hk2
        refine ⟨vw5, vh, putK kvs kk z, (putAt (keyD kk) vd (kvs.map fun p => keyD p.1) vs).2, (s2.trans (s3.trans (s4.trans s5))).updP hD _, sr5.other _ q2 q3, upd_same, r2, q2, q3, ?_, ?_⟩
        · have := length_putK kvs kk z; omega
        · rw [r1]; exact elp
    · have e : i = xs.length := by omega
      subst e
      refine .inl ⟨w.stops H2 q, ?_⟩
      obtain ⟨vw2, h2, kvs, vs, s2, sr2, hDd, racc, np2, nF2, hacc, elp⟩ := pv
      rw [List.drop_length] at elp
      simp only [dcLoop, Option.some.injEq, Prod.mk.injEq] at elp
      obtain ⟨⟨rfl, rfl⟩, rfl⟩ := elp
      have le := leAdd nF2 (.dK kvs)
      exact k (vw2.newF Dd (.dK kvs)) H2 _ (st1.trans (s2.addF hD nF2 _)) (sr2.addF hDd np2 nF2) (.dct upd_same (racc.mono le))
theorem ok_dc {tg : Tg} {own : List Nat} {it : It} {kx vx : E} (hi : OkI P G nm ad fdo n it) (hk : OkE P G nm ad fdo n kx) (he : OkE P G nm ad fdo n vx) : OkE P G nm ad fdo n (.dc tg own it kx vx) := fun {x X T} S h => by
  cases x <;> try (simp only [chk, Bool.false_eq_true] at h; done)
  rename_i k' v' gens scope pos
  match gens, h with
  | [⟨tg', it', ifs, ia⟩], h =>
    simp only [chk, Bool.and_eq_true, decide_eq_true_eq] at h
    obtain ⟨⟨⟨⟨⟨⟨⟨⟨⟨h1, h2⟩, h3⟩, h4⟩, h5⟩, h6⟩, h7⟩, h8⟩, h9⟩, h10⟩ := h
    subst h1
    have hifs : ifs = [] := List.isEmpty_iff.mp h8
    subst hifs
    have base := pe_dc (pos := pos) (kx := k') (vx := v') (ifs := []) (g := gOf X.K tg) (tt := tYes) (tk := RdE X.K nm (ev P (run P n) kx)) (tv := RdE X.K nm (ev P (run P n) vx)) S.calm (by rw [S.N]; exact S.nd) (hi (tg := tg') S h7) (by rw [S.N, S.sc]; exact blkOk_by h3) (fun s H C cl fp => chkG_ok (S.blk s H C cl fp scope) h6) (fun s H C cl fp => pts_nil) (fun s H C cl fp => (hk (S.blk s H C cl fp scope) h9).1) (fun s H C cl fp => (he (S.blk s H C cl fp scope) h10).1) (fold_plain h2 _)
    rw [h4] at base
    exact mkPlain (base.imp fun σ H Q q => dc_reads h5 q) rfl
  | [], h => simp [chk] at h
  | _ :: _ :: _, h => simp [chk] at h
/-! ### enumerate, zip -/
theorem still_of {K : PySem.W.Frag} {vw : Vw} {v : V} {d : D} {xs : List D} {h : Hh} (r : Rep K vw v d) (e : seqOf h d = some xs) : ∃ ys, Still K vw.F v ys ∧ Reps K vw ys xs := by
  cases r <;> simp only [seqOf, reduceCtorEq, Option.some.injEq] at e
  · rename_i s
    subst e
    refine ⟨_, .str (toS s), ?_⟩
    rw [toS_cps]
    induction s with
    | nil => exact .nil
    | cons c s ih => exact .cons (.str [c]) ih
  · rename_i h1 h2
    subst e
    exact ⟨_, .tup h1, h2⟩
  · rename_i h1 h2
    subst e
    exact ⟨_, .lst (SqL.of h1), h2⟩
  · rename_i h1 h2
    subst e
    exact ⟨_, .lst h1, h2⟩
theorem enumL_at : ∀ {xs : List D} {k i : Nat} {x : D}, xs[i]? = some x → (enumL k xs)[i]? = some (.tup [.int ((k + i : Nat) : Int), x])
  | x :: xs, k, 0, y, h => by simp at h; subst h; simp [enumL]
  | x :: xs, k, i + 1, y, h => by
    have := enumL_at (xs := xs) (k := k + 1) (i := i) (x := y) (by simpa using h)
    simp only [enumL, List.getElem?_cons_succ, this]
    congr 5
    omega
  | [], _, _, _, h => by simp at h
theorem enumL_len : ∀ (k : Nat) (xs : List D), (enumL k xs).length = xs.length
  | _, [] => rfl
  | k, x :: xs => by simp [enumL, enumL_len (k + 1) xs]
theorem zipL_at : ∀ {xs ys : List D} {i : Nat} {x y : D}, xs[i]? = some x → ys[i]? = some y → (zipL xs ys)[i]? = some (.tup [x, y])
  | x :: xs, y :: ys, 0, a, b, h1, h2 => by simp at h1 h2; subst h1 h2; simp [zipL]
  | x :: xs, y :: ys, i + 1, a, b, h1, h2 => by
    simpa [zipL] using zipL_at (xs := xs) (ys := ys) (i := i) (by simpa using h1) (by simpa using h2)
  | [], _, _, _, _, h1, _ => by simp at h1
  | _ :: _, [], _, _, _, _, h2 => by simp at h2
theorem zipL_len : ∀ (xs ys : List D), (zipL xs ys).length = min xs.length ys.length
  | [], _ => by simp [zipL]
  | _ :: _, [] => by simp [zipL]
  | x :: xs, y :: ys => by simp [zipL, zipL_len xs ys]
theorem wy_pair {K : PySem.W.Frag} {vw vw1 : Vw} {H : Hp} {h1 : Hh} {T : Addr} {x y : V} {d e : D} (sr : SR K nm vw1 H h1) (le : vw.Le vw1) (hT : H T = none) (rx : Rep K vw x d) (ry : Rep K vw y e) :
    ∃ vw2, Stp vw1 H vw2 (upd H T (.tup [x, y])) ∧ SR K nm vw2 (upd H T (.tup [x, y])) h1 ∧ Rep K vw2 (.ref T) (.tup [d, e]) := by
  have st := sr.stF (.tup [x, y]) hT
  exact ⟨_, st, sr.newF hT, .tup (SqT.of upd_same) (.cons ((rx.mono le).mono st.le) (.cons ((ry.mono le).mono st.le) .nil))⟩
theorem wd_en {K : PySem.W.Frag} {vw : Vw} {ys : List V} {xs : List D} (r : Reps K vw ys xs) : WD K nm (ItEn vw.F ys) (enumL 0 xs) vw := by
  refine ⟨fun i H hi q => ?_, fun H q => ?_, fun i H x H' hi q y => ?_⟩
  · rw [enumL_len, ← r.length] at hi
    exact ⟨q, hi⟩
  · refine ⟨q, ?_⟩
    rw [enumL_len, r.length]
  · intro vw1 h1 le sr
    obtain ⟨T, v, e1, e2, e3, e4⟩ := y
    subst e1 e3
    obtain ⟨d, f1, f2⟩ := r.atV e4
    obtain ⟨vw2, s1, s2, s3⟩ := wy_pair sr le e2 (.int _) f2
    have := enumL_at (k := 0) f1
    rw [Nat.zero_add] at this
    exact ⟨vw2, _, s1, s2, this, s3⟩
theorem wd_zp {K : PySem.W.Frag} {vw : Vw} {ys ys2 : List V} {xs xs2 : List D} (r : Reps K vw ys xs) (r2 : Reps K vw ys2 xs2) : WD K nm (ItZp vw.F ys ys2) (zipL xs xs2) vw := by
  refine ⟨fun i H hi q => ?_, fun H q => ?_, fun i H x H' hi q y => ?_⟩
  · rw [zipL_len, ← r.length, ← r2.length] at hi
    exact ⟨q, by omega, by omega⟩
  · rw [zipL_len, ← r.length, ← r2.length]
    exact ⟨q, by omega, by omega, by omega⟩
  · intro vw1 h1 le sr
    obtain ⟨T, v, w, e1, e2, e3, e4, e5⟩ := y
    subst e1 e3
    obtain ⟨d, f1, f2⟩ := r.atV e4
    obtain ⟨d2, g1, g2⟩ := r2.atV e5
    obtain ⟨vw2, s1, s2, s3⟩ := wy_pair sr le e2 f2 g2
    exact ⟨vw2, _, s1, s2, zipL_at f1 g1, s3⟩
theorem tup_of {tg : Expr} (h : isTupE tg = true) : ∃ es k p, tg = .Tuple es k p := by
  cases tg <;> simp [isTupE] at h
  exact ⟨_, _, _, rfl⟩
theorem ok_enum {e : E} (he : OkE P G nm ad fdo n e) : OkI P G nm ad fdo n (.enum e) := fun {x tg X T} S h => by
  cases x <;> try (simp only [chkI, Bool.false_eq_true] at h; done)
  rename_i fn args kws pos
  cases fn <;> try (simp only [chkI, Bool.false_eq_true] at h; done)
  rename_i y p
  match args, kws, h with
  | [a'], [], h =>
    simp only [chkI, Bool.and_eq_true] at h
    obtain ⟨⟨⟨⟨h1, h2⟩, h0⟩, h3⟩, h4⟩ := h
    obtain ⟨es, kk, tp, rfl⟩ := tup_of h0
    have e0 := sEq_ok h1
    subst e0
    obtain ⟨g1, g2⟩ := gfree_ok S h2
    have A : PA X [a'] (tCons (RdE X.K nm (ev P (run P n) e)) tNil) := pa_cons (he S h4).1 pa_nil (star_cons h3 _ _)
    refine PI.by fun σ H R q => ⟨_, pi_en g1 g2 A (by rw [star_cons h3]; rfl), ?_⟩
    obtain ⟨vw, hh, δ, xs, h', sr, en, ee, k⟩ := q
    simp only [evI] at ee
    obtain ⟨⟨d, dh⟩, e1, e2⟩ := Option.bind_eq_some_iff.mp ee
    obtain ⟨ys, e3, e4⟩ := Option.map_eq_some_iff.mp e2
    simp only [Prod.mk.injEq] at e4
    obtain ⟨rfl, rfl⟩ := e4
    refine ⟨vw, hh, δ, d, dh, sr, en, e1, fun vw1 H1 v st1 sr1 rv => ?_⟩
    obtain ⟨zs, q1, q2⟩ := still_of rv e3
    exact ⟨v, zs, vw1.F, rfl, sr1.ex, q1, k vw1 H1 _ st1 sr1 (wd_en q2)⟩
  | [], _, h => simp [chkI] at h
  | _ :: _ :: _, _, h => simp [chkI] at h
  | [_], _ :: _, h => simp [chkI] at h
theorem ok_zip {a b : E} (ha : OkE P G nm ad fdo n a) (hb : OkE P G nm ad fdo n b) : OkI P G nm ad fdo n (.zip a b) := fun {x tg X T} S h => by
  cases x <;> try (simp only [chkI, Bool.false_eq_true] at h; done)
  rename_i fn args kws pos
  cases fn <;> try (simp only [chkI, Bool.false_eq_true] at h; done)
  rename_i y p
  match args, kws, h with
  | [a', b'], [], h =>
    simp only [chkI, Bool.and_eq_true] at h
    obtain ⟨⟨⟨⟨⟨⟨h1, h2⟩, h0⟩, h3⟩, h4⟩, h5⟩, h6⟩ := h
    obtain ⟨es, kk, tp, rfl⟩ := tup_of h0
    have e0 := sEq_ok h1
    subst e0
    obtain ⟨g1, g2⟩ := gfree_ok S h2
    have A : PA X [a', b'] (tCons (RdE X.K nm (ev P (run P n) a)) (tCons (RdE X.K nm (ev P (run P n) b)) tNil)) := pa_cons (ha S h5).1 (pa_cons (hb S h6).1 pa_nil (star_cons h4 _ _)) (star_cons h3 _ _)
    refine PI.by fun σ H R q => ⟨_, pi_zp g1 g2 A (star_cons h3 _ _) (by rw [star_cons h4]; rfl), ?_⟩
    obtain ⟨vw, hh, δ, xs, h', sr, en, ee, k⟩ := q
    simp only [evI] at ee
    obtain ⟨⟨d, dh⟩, e1, e2⟩ := Option.bind_eq_some_iff.mp ee
    obtain ⟨⟨u, uh⟩, e3, e4⟩ := Option.bind_eq_some_iff.mp e2
    obtain ⟨ys, e5, e6⟩ := Option.bind_eq_some_iff.mp e4
    obtain ⟨ys2, e7, e8⟩ := Option.map_eq_some_iff.mp e6
    simp only [Prod.mk.injEq] at e8
    obtain ⟨rfl, rfl⟩ := e8
    refine ⟨vw, hh, δ, d, dh, sr, en, e1, fun vw1 H1 v st1 sr1 rv => ?_⟩
    refine ⟨vw1, dh, δ, u, uh, sr1, en.mono st1.le, e3, fun vw2 H2 w st2 sr2 rw' => ?_⟩
    obtain ⟨zs, q1, q2⟩ := still_of (rv.mono st2.le) e5
    obtain ⟨zs2, q3, q4⟩ := still_of rw' e7
    exact ⟨v, w, zs, zs2, vw2.F, rfl, sr2.ex, q1, q3, k vw2 H2 _ (st1.trans st2) sr2 (wd_zp q2 q4)⟩
  | [], _, h => simp [chkI] at h
  | [_], _, h => simp [chkI] at h
  | _ :: _ :: _ :: _, _, h => simp [chkI] at h
  | [_, _], _ :: _, h => simp [chkI] at h
/-! ### dict(zip(text, tuple)) -/
theorem zipPut_ok {K : PySem.W.Frag} {vw : Vw} : ∀ (cs : List Nat) {xs : List V} {ds : List D} {kvs : List (Key × V)} {vs : List D}, Reps K vw xs ds → Reps K vw (kvs.map (·.2)) vs →
    (putAll kvs (zipKV cs xs)).map (fun p => keyD p.1) = (zipPut cs ds (kvs.map fun p => keyD p.1) vs).1 ∧ Reps K vw ((putAll kvs (zipKV cs xs)).map (·.2)) (zipPut cs ds (kvs.map fun p => keyD p.1) vs).2
  | [], _, _, kvs, vs, _, r => by simp only [zipKV, zipPut]; exact ⟨rfl, r⟩
  | _ :: _, _, _, kvs, vs, .nil, r => ⟨rfl, r⟩
  | c :: cs, _, _, kvs, vs, .cons (v := x) (d := d) rx rxs, r => by
    obtain ⟨a, b⟩ := put_reps (.inr ⟨#[c]⟩) rx r
    have := zipPut_ok cs (kvs := putK kvs (.inr ⟨#[c]⟩) x) rxs b
    rw [a] at this
    exact this
theorem ok_dz {a b : E} (ha : OkE P G nm ad fdo n a) (hb : OkE P G nm ad fdo n b) : OkE P G nm ad fdo n (.dz a b) := fun {x X T} S h => by
  cases x <;> try (simp only [chk, Bool.false_eq_true] at h; done)
  rename_i fn args kws pos
  cases fn <;> try (simp only [chk, Bool.false_eq_true] at h; done)
  rename_i y p
  cases kws with
  | cons _ _ => simp only [chk, Bool.false_eq_true] at h
  | nil =>
    simp only [chk] at h
    split at h
    case h_2 => cases h
    rename_i z a' b' hz
    obtain ⟨zp, cp, rfl⟩ := dzArgs_ok hz
    simp only [Bool.and_eq_true] at h
    obtain ⟨⟨⟨⟨⟨⟨⟨h1, h2⟩, h3⟩, h4⟩, h5⟩, h6⟩, h7⟩, h8⟩ := h
    have e0 := sEq_ok h1
    have e1 := sEq_ok h3
    subst e0 e1
    obtain ⟨g1, g2⟩ := gfree_ok S h2
    obtain ⟨g3, g4⟩ := gfree_ok S h4
    have A : PA X [a', b'] (tCons (RdE X.K nm (ev P (run P n) a)) (tCons (RdE X.K nm (ev P (run P n) b)) tNil)) := pa_cons (ha S h7).1 (pa_cons (hb S h8).1 pa_nil (star_cons h6 _ _)) (star_cons h5 _ _)
    refine mkPlain ((pe_dz S.calm g1 g2 g3 g4 A (star_cons h5 _ _) (by rw [star_cons h6]; rfl)).imp ?_) rfl
    rintro σ H Q ⟨vw, hh, δ, r, h', sr, en, ee, k⟩
    simp only [ev] at ee
    obtain ⟨⟨d, dh⟩, e1, e2⟩ := Option.bind_eq_some_iff.mp ee
    obtain ⟨⟨u, uh⟩, e3, e4⟩ := Option.bind_eq_some_iff.mp e2
    refine ⟨vw, hh, δ, d, dh, sr, en, e1, fun vw1 H1 v st1 sr1 rv => ?_⟩
    refine ⟨vw1, dh, δ, u, uh, sr1, en.mono st1.le, e3, fun vw2 H2 w st2 sr2 rw' => ?_⟩
    cases rv <;> simp only [reduceCtorEq] at e4
    rename_i s
    cases rw' with
    | @tup ta xs ds ht hr =>
      simp only [Option.some.injEq, Prod.mk.injEq] at e4
      obtain ⟨rfl, rfl⟩ := e4
      refine ⟨_, _, _, rfl, sr2.ex.sqT ht, fun pp hp => ?_⟩
      have st := sr2.stM (.dK (putAll [] (zipKV (toS s).cps.toList xs))) hp
      obtain ⟨q1, q2⟩ := zipPut_ok (K := X.K) (vw := vw2.newM pp) s (xs := xs) (ds := ds) (kvs := []) (vs := []) (hr.mono st.le) .nil
      rw [toS_cps] at st ⊢
      exact k _ _ _ (st1.trans (st2.trans st)) (sr2.newM hp ⟨_, upd_same, q1.symm, q2⟩) (.ref (newM_at sr2.len))
    | _ => simp only [reduceCtorEq] at e4
/-! ### {k: v, ..} -/
theorem SR.addM {K : PySem.W.Frag} {vw : Vw} {H : Hp} {h : Hh} {p : Addr} {ob : Ob} (s : SR K nm vw H h) (h1 : p ∉ vw.ρ) (h2 : vw.F p = none) (new : ObR K nm (vw.newM p) H p ob) : SR K nm (vw.newM p) H (h ++ [ob]) := by
  refine ⟨s.ex, by simp [Vw.newM, s.len], ?_, fun a ha => ?_, fun l q a e e2 => ?_⟩
  · show (vw.ρ ++ [p]).Nodup
    rw [List.nodup_append]
    refine ⟨s.nd, by simp, fun a ha b hb => ?_⟩
    have : b = p := by simpa using hb
    subst this
    exact fun q => h1 (q ▸ ha)
  · have ha : a ∈ vw.ρ ++ [p] := ha
    rcases List.mem_append.mp ha with q | q
    · exact s.nf a q
    · have : a = p := by simpa using q
      subst this; exact h2
  · have e2 : (vw.ρ ++ [p])[l]? = some a := e2
    by_cases hl : l < h.length
    · rw [List.getElem?_append_left hl] at e
      rw [List.getElem?_append_left (by rw [s.len]; exact hl)] at e2
      exact (s.ob l q a e e2).mono (Vw.leM vw p) rfl
    · have hl2 : l = h.length := by
        have := (List.getElem?_eq_some_iff.mp e).1
        simp at this; omega
      subst hl2
      rw [List.getElem?_append_right (Nat.le_refl _)] at e
      rw [← s.len, List.getElem?_append_right (Nat.le_refl _)] at e2
      simp at e e2
      subst e e2
      exact new
theorem Stp.addM {vw vw' : Vw} {H H' : Hp} {p : Addr} (s : Stp vw H vw' H') (hp : H p = none) : Stp vw H (vw'.newM p) H' := by
  refine ⟨s.le.trans (Vw.leM vw' p), s.keep, s.newF, fun a ha => ?_⟩
  have ha : a ∈ vw'.ρ ++ [p] := ha
  rcases List.mem_append.mp ha with q | q
  · exact s.newR a q
  · have : a = p := by simpa using q
    subst this; exact .inr hp
theorem Stp.fresh {vw : Vw} {H : Hp} {p : Addr} (hp : H p = none) (o : HO) : Stp vw H vw (upd H p o) := ⟨Vw.Le.rfl, fun a u e _ => by rw [upd_ne (ne_of_none e hp)]; exact e, fun _ _ e => .inl e, fun _ e => .inl e⟩
theorem dsp_reps {K : PySem.W.Frag} {vw : Vw} : ∀ {qs : List (D × D)} {ps : List (V × V)} {kvs : List (Key × V)} {vs : List D}, Reps K vw (ps.map (·.1)) (qs.map (·.1)) → Reps K vw (ps.map (·.2)) (qs.map (·.2)) → qs.all (fun q => isKey q.1) = true → Reps K vw (kvs.map (·.2)) vs →
    ∃ more : List (Key × V), ps = more.map (fun kv => (kV kv.1, kv.2)) ∧ (mergeK kvs more).map (fun p => keyD p.1) = (dspPut qs (kvs.map fun p => keyD p.1) vs).1 ∧ Reps K vw ((mergeK kvs more).map (·.2)) (dspPut qs (kvs.map fun p => keyD p.1) vs).2
  | [], [], kvs, vs, _, _, _, r => ⟨[], rfl, rfl, r⟩
  | (qk, qv) :: qs, (pk, pv) :: ps, kvs, vs, .cons r1 r1s, .cons r2 r2s, hk, r => by
    rw [List.all_cons, Bool.and_eq_true] at hk
    obtain ⟨kk, k1, k2⟩ := key_of' r1 hk.1
    dsimp only at k1 k2 r2
    obtain ⟨a, b⟩ := put_reps kk r2 r
    obtain ⟨more, m1, m2, m3⟩ := dsp_reps (kvs := putK kvs kk pv) r1s r2s hk.2 b
    subst k2
    rw [a] at m2 m3
    exact ⟨(kk, pv) :: more, by rw [m1, k1]; rfl, m2, m3⟩
  | [], _ :: _, _, _, r1, _, _, _ => by cases r1
  | _ :: _, [], _, _, r1, _, _, _ => by cases r1
theorem ok_dsp {es : EL} (hs : OkP P G nm ad fdo n es) : OkE P G nm ad fdo n (.dsp es) := fun {x X T} S h => by
  cases x <;> try (simp only [chk, Bool.false_eq_true] at h; done)
  rename_i keys values pos
  simp only [chk, Bool.and_eq_true, decide_eq_true_eq, Bool.not_eq_true'] at h
  obtain ⟨⟨⟨⟨h1, h2⟩, h3⟩, h4⟩, h5⟩ := h
  obtain ⟨trs, q1, q2⟩ := hs (pos := pos) S h5 h1 h2
  refine mkPlain ((pe_disp q1 h1 h2 (fun q => by subst q; cases h4) h3).imp ?_) rfl
  rintro σ H Q ⟨vw, hh, δ, r, h', sr, en, e, k⟩
  simp only [ev] at e
  obtain ⟨⟨ds, hx⟩, e1, e⟩ := Option.bind_eq_some_iff.mp e
  obtain ⟨qs, e2, e⟩ := Option.bind_eq_some_iff.mp e
  simp only [Option.ite_none_right_eq_some, Option.some.injEq, Prod.mk.injEq] at e
  obtain ⟨hk, rfl, rfl⟩ := e
  intro p hp
  have np : p ∉ vw.ρ := sr.notin hp
  have nF : vw.F p = none := sr.ex.none hp
  refine q2 σ _ _ ⟨vw, hh, δ, ds, hx, sr.other _ np nF, en, e1, fun vw2 H2 ps qs' st2 sr2 hq r1 r2 => ?_⟩
  rw [e2] at hq
  cases hq
  obtain ⟨z1, z2, z3⟩ := st2.priv upd_same np nF
  obtain ⟨more, m1, m2, m3⟩ := dsp_reps (kvs := []) (vs := []) r1 r2 hk .nil
  refine ⟨z1, more, m1, ?_, ?_⟩
  · have l1 : more.length = ps.length := by rw [m1, List.length_map]
    have l2 : ps.length = qs.length := by have := r1.length; simpa using this
    have l3 := evs_len h5 e1
    have l4 : ∀ {d : List D} {q : List (D × D)}, pairUp d = some q → d.length = 2 * q.length := fun {d q} => by
      induction d using pairUp.induct generalizing q with
      | case1 => intro w; simp [pairUp] at w; subst w; rfl
      | case2 a b r ih =>
        intro w
        simp only [pairUp, Option.map_eq_some_iff] at w
        obtain ⟨q', w1, w2⟩ := w
        subst w2
        have := ih w1
        simp only [List.length_cons]; omega
      | case3 t h1 h2 => intro w; rw [pairUp] at w; cases w; all_goals assumption
    have l5 : ∀ (ks : List (Option Expr)) (vs : List Expr), ks.all (·.isSome) = true → ks.length = vs.length → (ilv ks vs).length = 2 * ks.length := fun ks => by
      induction ks with
      | nil => intro vs _ _; simp [ilv]
      | cons a ks ih =>
        intro vs w1 w2
        cases a with
        | none => simp at w1
        | some a =>
          cases vs with
          | nil => simp at w2
          | cons v vs =>
            simp only [List.all_cons, Bool.and_eq_true] at w1
            simp only [List.length_cons, Nat.add_right_cancel_iff] at w2
            have := ih vs w1.2 w2
            simp only [ilv, List.length_cons, this]; omega
    have l6 : ds.length = 2 * qs.length := l4 e2
    have l7 := l5 keys values h1 h2
    have l8 : ds.length = (ilv keys values).length := l3
    omega
  · have sr3 : SR X.K nm vw2 (upd H2 p (.dK (mergeK [] more))) hx := sr2.other _ z2 z3
    have stf : Stp vw H vw2 (upd H2 p (.dK (mergeK [] more))) := ((Stp.fresh hp _).trans st2).updP hp _
    exact k _ _ _ (stf.addM hp) (sr3.addM z2 z3 ⟨_, upd_same, m2.symm, m3.mono (Vw.leM vw2 p)⟩) (.ref (newM_at sr2.len))
/-! ### x in range(a, b) -/
theorem boot_range : bootBuiltins "range" = some (.type "range") := by decide +kernel
theorem ok_inR {neg : Bool} {x a b : E} (hx : OkE P G nm ad fdo n x) (ha : OkE P G nm ad fdo n a) (hb : OkE P G nm ad fdo n b) : OkE P G nm ad fdo n (.inR neg x a b) := fun {x' X T} S h => by
  cases x' <;> try (simp only [chk, Bool.false_eq_true] at h; done)
  rename_i l ops cs pos
  match ops, cs, h with
  | [op], [r'], h =>
    simp only [chk] at h
    split at h
    case h_2 => cases h
    rename_i y a' b' hz
    obtain ⟨yp, cp, rfl⟩ := rngArgs_ok hz
    simp only [Bool.and_eq_true] at h
    obtain ⟨⟨⟨⟨⟨⟨⟨h1, h2⟩, h3⟩, h4⟩, h5⟩, h6⟩, h7⟩, h8⟩ := h
    have e0 := sEq_ok h2
    have eo := hasOp_ok h1
    subst e0 eo
    obtain ⟨g1, g2⟩ := gfree_ok S h3
    have A : PA X [a', b'] (tCons (RdE X.K nm (ev P (run P n) a)) (tCons (RdE X.K nm (ev P (run P n) b)) tNil)) := pa_cons (ha S h7).1 (pa_cons (hb S h8).1 pa_nil (star_cons h5 _ _)) (star_cons h4 _ _)
    have C : PE X (.Call (.Name "range" yp) [a', b'] [] cp) _ := pe_callTy cr_range2 g1 g2 boot_range A (by decide) (by decide) (star_cons h4 _ _) (star_any (by rw [List.all_cons, h5]; rfl) _ _)
    have key : ∀ σ H Q, RdE X.K nm (ev P (run P n) (.inR neg x a b)) σ H Q → tOp (rInR neg) (RdE X.K nm (ev P (run P n) x)) (tCB (fun vs H Q => ∃ i j, vs = [V.int i, V.int j] ∧ ∀ p, H p = none → Q (.ref p) (upd H p (.rng i j))) (tCons (RdE X.K nm (ev P (run P n) a)) (tCons (RdE X.K nm (ev P (run P n) b)) tNil))) σ H Q := by
      rintro σ H Q ⟨vw, hh, δ, r, h', sr, en, e, k⟩
      simp only [ev] at e
      obtain ⟨⟨pd, ph⟩, e1, e⟩ := Option.bind_eq_some_iff.mp e
      obtain ⟨⟨qd, qh⟩, e2, e⟩ := Option.bind_eq_some_iff.mp e
      obtain ⟨⟨rd, rh⟩, e3, e⟩ := Option.bind_eq_some_iff.mp e
      refine ⟨vw, hh, δ, pd, ph, sr, en, e1, fun vw1 H1 v st1 sr1 rv => ?_⟩
      refine ⟨vw1, ph, δ, qd, qh, sr1, en.mono st1.le, e2, fun vw2 H2 u st2 sr2 ru => ?_⟩
      refine ⟨vw2, qh, δ, rd, rh, sr2, (en.mono st1.le).mono st2.le, e3, fun vw3 H3 w st3 sr3 rw' => ?_⟩
      cases ru <;> simp only [reduceCtorEq] at e
      cases rw' <;> simp only [reduceCtorEq] at e
      simp only [Option.ite_none_right_eq_some] at e
      obtain ⟨hw, e⟩ := e
      refine ⟨_, _, rfl, fun p hp => ?_⟩
      have rv3 := (rv.mono st2.le).mono st3.le
      have fin : ∀ o : HO, SR X.K nm vw3 (upd H3 p o) rh := fun o => sr3.other o (sr3.notin hp) (sr3.ex.none hp)
      cases rv3 <;> simp only [reduceCtorEq, Option.some.injEq, Prod.mk.injEq] at e
      · obtain ⟨rfl, rfl⟩ := e
        refine ⟨p, _, _, false, rfl, upd_same, .inr ⟨rfl, rfl⟩, ?_⟩
        refine k vw3 _ _ (st1.trans (st2.trans (st3.trans (Stp.fresh hp _)))) (fin _) ?_
        cases neg <;> exact .bl _
      · obtain ⟨rfl, rfl⟩ := e
        refine ⟨p, _, _, _, rfl, upd_same, .inl ⟨_, rfl, rfl⟩, ?_⟩
        refine k vw3 _ _ (st1.trans (st2.trans (st3.trans (Stp.fresh hp _)))) (fin _) ?_
        cases neg <;> exact .bl _
    exact ⟨(pe_cmpR (op_inR neg) (hx S h6).1 C (marks_plain rfl _)).imp key, fun _ => (pt_cmpR (op_inR neg) (hx S h6).1 C (marks_plain rfl _)).imp fun σ H Q q => key _ _ _ q.toE, fun hb => by simp [isBo] at hb⟩
  | [], _, h => simp [chk] at h
  | [_], [], h => simp [chk] at h
  | [_], _ :: _ :: _, h => simp [chk] at h
  | _ :: _ :: _, _, h => simp [chk] at h
end
end VI

/-! VI, part K1: join, [::-1], update, range downwards; all expressions. -/
namespace VI
open PySem L2 PyProof.Rows
theorem textsOf_reps {K : PySem.W.Frag} {vw : Vw} : ∀ {vs : List V} {ds : List D} {ts : List (List Nat)}, Reps K vw vs ds → textsOf ds = some ts → vs = (ts.map toS).map V.str
  | [], [], ts, _, e => by simp [textsOf] at e; subst e; rfl
  | v :: vs, d :: ds, ts, .cons r rs, e => by
    cases d <;> simp only [textsOf, reduceCtorEq] at e
    obtain ⟨ts', e1, e2⟩ := Option.map_eq_some_iff.mp e
    subst e2
    cases r
    rw [textsOf_reps rs e1]
    rfl
theorem joinL_ok (a : List Nat) : ∀ ts : List (List Nat), Txt.join (toS a) (ts.map toS) = toS (joinL a ts) := by
  intro ts
  rw [show Txt.join (toS a) (ts.map toS) = Str.join (toS a) (ts.map toS) from StrLaws.glued_eq_join _ _]
  induction ts using joinL.induct with
  | case1 => rfl
  | case2 x => rfl
  | case3 x y r ih =>
    show toS x ++ toS a ++ Str.join (toS a) (toS y :: r.map toS) = _
    have ih : Str.join (toS a) (toS y :: r.map toS) = toS (joinL a (y :: r)) := ih
    rw [ih, toS_app, toS_app]
    rfl
theorem sum_lens (ts : List (List Nat)) : ((ts.map toS).map (·.length)).sum = (ts.map List.length).sum := by
  rw [List.map_map]
  exact congrArg List.sum (List.map_congr_left fun x _ => toS_len x)
section
variable {P : Pg} {G : Gm} {nm : Nm} {ad : Nat → Addr} {fdo : Nat → FuncData} {n : Nat}
/-! ### a.join(b) -/
theorem ok_join {a b : E} (ha : OkE P G nm ad fdo n a) (hb : OkE P G nm ad fdo n b) : OkE P G nm ad fdo n (.join a b) := fun {x X T} S h => by
  cases x <;> try (simp only [chk, Bool.false_eq_true] at h; done)
  rename_i fn args kws pos
  cases fn <;> try (simp only [chk, Bool.false_eq_true] at h; done)
  rename_i o' m apos
  match args, kws, h with
  | [a'], [], h =>
    simp only [chk, Bool.and_eq_true] at h
    obtain ⟨⟨⟨⟨⟨h1, h2⟩, h3⟩, h4⟩, h5⟩, h6⟩ := h
    have e0 := sEq_ok h1
    subst e0
    refine mkPlain ((pe_join (ha S h5).1 (hb S h6).1 (star_cons h4 _ _) (base_plain h2 _ _) h3).imp ?_) rfl
    rintro σ H Q ⟨vw, hh, δ, r, h', sr, en, e, k⟩
    simp only [ev] at e
    obtain ⟨⟨od, oh⟩, e1, e⟩ := Option.bind_eq_some_iff.mp e
    obtain ⟨⟨qd, qh⟩, e2, e⟩ := Option.bind_eq_some_iff.mp e
    refine ⟨vw, hh, δ, od, oh, sr, en, e1, fun vw1 H1 v st1 sr1 rv => ?_⟩
    cases rv <;> simp only [reduceCtorEq] at e
    rename_i s _
    refine ⟨⟨_, rfl⟩, vw1, oh, δ, qd, qh, sr1, en.mono st1.le, e2, fun vw2 H2 y st2 sr2 ry => ?_⟩
    obtain ⟨ts, e3, e⟩ := Option.bind_eq_some_iff.mp e
    obtain ⟨xs, e4, e5⟩ := Option.bind_eq_some_iff.mp e3
    simp only [Option.ite_none_right_eq_some, Option.some.injEq, Prod.mk.injEq] at e
    obtain ⟨⟨l1, l2, l3⟩, rfl, rfl⟩ := e
    have fin : ∀ (p : Addr) (vs : List V), y = .ref p → (SqL X.K H2 p vs ∨ SqT X.K H2 p vs) → Reps X.K vw2 vs xs → ∃ a p, ∃ ys : List Str, (V.str (toS s)) = .str a ∧ [y] = [.ref p] ∧ (SqL X.K H2 p (ys.map V.str) ∨ SqT X.K H2 p (ys.map V.str)) ∧ (ys.map (·.length)).sum + ys.length * a.length ≤ 16777216 ∧ Q (.str (Txt.join a ys)) H2 := fun p vs ep hq rr => by
      rw [textsOf_reps rr e5] at hq
      refine ⟨_, p, ts.map toS, rfl, by rw [ep], hq, ?_, ?_⟩
      · rw [sum_lens, toS_len, List.length_map]
        have : ts.length * s.length ≤ 1000 * 100 := Nat.mul_le_mul l2 l1
        simp only [lim] at l3
        omega
      · rw [joinL_ok]
        exact k vw2 H2 _ (st1.trans st2) sr2 (.str _)
    cases ry with
    | tup ht hr =>
      simp only [ltOf, Option.some.injEq] at e4
      subst e4
      exact fin _ _ rfl (.inr (sr2.ex.sqT ht)) hr
    | non => simp [ltOf, lstOf] at e4
    | bl _ => simp [ltOf, lstOf] at e4
    | int _ => simp [ltOf, lstOf] at e4
    | str _ => simp [ltOf, lstOf] at e4
    | lst ht hr =>
      obtain ⟨p, vs, ea, hs, rr⟩ := lst_of sr2 (.lst ht hr) e4
      exact fin _ _ ea (.inl hs) rr
    | scr ht hr =>
      obtain ⟨p, vs, ea, hs, rr⟩ := lst_of sr2 (.scr ht hr) e4
      exact fin _ _ ea (.inl hs) rr
    | dct ht hr => simp [ltOf, lstOf] at e4
    | ref hl =>
      obtain ⟨p, vs, ea, hs, rr⟩ := lst_of sr2 (.ref hl) e4
      exact fin _ _ ea (.inl hs) rr
  | [], _, h => simp [chk] at h
  | _ :: _ :: _, _, h => simp [chk] at h
  | [_], _ :: _, h => simp [chk] at h
/-! ### a[::-1] -/
theorem reps_rev {K : PySem.W.Frag} {vw : Vw} : ∀ {vs : List V} {ds : List D}, Reps K vw vs ds → Reps K vw vs.reverse ds.reverse
  | [], [], _ => .nil
  | v :: vs, d :: ds, .cons r rs => by
    rw [List.reverse_cons, List.reverse_cons]
    exact (reps_rev rs).append (.cons r .nil)
theorem ok_rev {a : E} (ha : OkE P G nm ad fdo n a) : OkE P G nm ad fdo n (.rev a) := fun {x X T} S h => by
  cases x <;> try (simp only [chk, Bool.false_eq_true] at h; done)
  rename_i a' s' pos
  cases s' <;> try (simp only [chk, Bool.false_eq_true] at h; done)
  rename_i lo hi st p
  match lo, hi, st, h with
  | none, none, some s', h =>
    simp only [chk, Bool.and_eq_true] at h
    obtain ⟨h1, h2⟩ := h
    obtain ⟨k1, p1, q1, rfl⟩ := isM1_ok h1
    refine mkPlain ((pe_revL (ha S h2).1).imp ?_) rfl
    rintro σ H Q ⟨vw, hh, δ, r, h', sr, en, e, k⟩
    simp only [ev] at e
    obtain ⟨⟨od, oh⟩, e1, e⟩ := Option.bind_eq_some_iff.mp e
    obtain ⟨xs, e2, e3⟩ := Option.map_eq_some_iff.mp e
    simp only [Prod.mk.injEq] at e3
    obtain ⟨rfl, rfl⟩ := e3
    refine ⟨vw, hh, δ, od, oh, sr, en, e1, fun vw1 H1 v st1 sr1 rv => ?_⟩
    obtain ⟨p, vs, ea, hs, rr⟩ := lst_of sr1 rv e2
    refine ⟨p, vs, ea, hs, fun l hl => ?_⟩
    have st := sr1.stF (.lst vs.reverse) hl
    exact k _ _ _ (st1.trans st) (sr1.newF hl) (.lst upd_same ((reps_rev rr).mono st.le))
  | some _, _, _, h => simp [chk] at h
  | none, some _, _, h => simp [chk] at h
  | none, none, none, h => simp [chk] at h
/-! ### o.update(e) -/
def rDUpd : V → List V → Hp → VK → Prop := fun x vs H Q => ∃ (a b : Addr) (kvs more : List (Key × V)), x = .ref a ∧ vs = [.ref b] ∧ a ≠ b ∧ H a = some (.dK kvs) ∧ H b = some (.dK more) ∧ kvs.length + more.length ≤ sizeLine ∧ Q .non (upd H a (.dK (mergeK kvs more)))
theorem mt_dupd {X : Cx} : MtR X "dict.update" rDUpd := by
  intro pins s σ H x vs v us Q I rx rv h
  obtain ⟨a, b, kvs, more, ex, ev, ne, e, e2, hz, q⟩ := h
  subst ex
  subst ev
  obtain rfl : v = Value.ref a := rx
  obtain ⟨u, rfl, t⟩ := vals1 rv
  obtain rfl : u = Value.ref b := t
  obtain ⟨z, hd, ws, rel, dd⟩ := dk_of I.hok e
  obtain ⟨z2, hd2, ws2, rel2, dd2⟩ := dk_of I.hok e2
  refine call_meetsIn PySem.F.slot_dict_update dd.typeIs PySem.F.entry_dict_update (PySem.F.args_dict_update_2 _ _) (meets_dict_update (mixKind X.prog X.w) a b ne hd2)
    ⟨ws, ws2, dd, dd2, by rw [← rel.length, ← rel2.length]; exact hz, fun h' dd' _ hs => ⟨.non, _, ?_, rfl, q⟩⟩
  have he : ∃ q, h'.get? a = some q := let ⟨q, _, _, hq, _⟩ := dd'; ⟨q, hq⟩
  exact d_write (t' := s.toks) I (by rw [e]; exact True.intro) hs he (dk_new (Nat.le_trans (length_mergeK more kvs) hz) hd (rel2.merge rel) dd')
theorem dspPut_merge {K : PySem.W.Frag} {vw : Vw} : ∀ {more : List (Key × V)} {vs : List D} {kvs : List (Key × V)} {ws : List D}, Reps K vw (more.map (·.2)) vs → Reps K vw (kvs.map (·.2)) ws →
    (dspPut ((more.map fun p => keyD p.1).zip vs) (kvs.map fun p => keyD p.1) ws).1 = ((mergeK kvs more).map fun p => keyD p.1) ∧ Reps K vw ((mergeK kvs more).map (·.2)) (dspPut ((more.map fun p => keyD p.1).zip vs) (kvs.map fun p => keyD p.1) ws).2
  | [], [], kvs, ws, _, r => ⟨rfl, r⟩
  | p :: more, v :: vs, kvs, ws, .cons r1 rs, r => by
    obtain ⟨a, b⟩ := put_reps p.1 r1 r
    simp only [List.map_cons, List.zip_cons_cons, dspPut]
    rw [← a]
    exact dspPut_merge (kvs := putK kvs p.1 p.2) rs b
theorem ok_upd {a b : E} (ha : OkE P G nm ad fdo n a) (hb : OkE P G nm ad fdo n b) : OkE P G nm ad fdo n (.upd a b) := fun {x X T} S h => by
  cases x <;> try (simp only [chk, Bool.false_eq_true] at h; done)
  rename_i fn args kws pos
  cases fn <;> try (simp only [chk, Bool.false_eq_true] at h; done)
  rename_i o' m apos
  match args, kws, h with
  | [a'], [], h =>
    simp only [chk, Bool.and_eq_true] at h
    obtain ⟨⟨⟨⟨⟨h1, h2⟩, h3⟩, h4⟩, h5⟩, h6⟩ := h
    have e0 := sEq_ok h1
    subst e0
    have A : PA X [a'] (tCons (RdE X.K nm (ev P (run P n) b)) tNil) := pa_cons (hb S h6).1 pa_nil (star_cons h4 _ _)
    have few : ((backTo pos (starEach [a'] X.env)).all (fun x => !x.1) && (backToKw pos (keywordEach [] X.env)).all (fun x => x.1.isSome) && decide (([a'] : List Expr).length + ([] : List Keyword).length + (if ([] : List Keyword).isEmpty then 0 else 1) < 30)) = true := by
      rw [star_all (by simp [h4])]; rfl
    refine mkPlain ((pe_bm PySem.F.plainAttrs_dict PySem.F.slot_dict_update PySem.F.type_dict_update mt_dupd (ha S h5).1 A (base_plain h2 _ _) few h3 (star_cons h4 _ _) (star_any rfl _ _)).imp ?_) rfl
    rintro σ H Q ⟨vw, hh, δ, r, h', sr, en, e, k⟩
    simp only [ev] at e
    obtain ⟨⟨od, oh⟩, e1, e⟩ := Option.bind_eq_some_iff.mp e
    obtain ⟨⟨qd, qh⟩, e2, e⟩ := Option.bind_eq_some_iff.mp e
    refine ⟨vw, hh, δ, od, oh, sr, en, e1, fun vw1 H1 v st1 sr1 rv => ?_⟩
    cases rv with
    | @ref aa l hl =>
      cases qd <;> simp only [reduceCtorEq] at e
      rename_i ks vs
      cases hc1 : oh[l]? with
      | none => rw [hc1] at e; simp at e
      | some ob1 =>
        cases ob1 with
        | dct ks1 vs1 =>
          obtain ⟨kvs1, hH1, _⟩ := sr1.ob _ _ _ hc1 hl
          refine ⟨.inr (.inr (.inl ⟨rfl, .inl ⟨kvs1, hH1⟩⟩)), ?_⟩
          refine ⟨vw1, oh, δ, _, qh, sr1, en.mono st1.le, e2, fun vw2 H2 y st2 sr2 ry => ?_⟩
          rw [hc1] at e
          cases hc : qh[l]? with
          | none => rw [hc] at e; cases e
          | some ob =>
            rw [hc] at e
            cases ob with
            | dct ks0 vs0 =>
              simp only [Option.ite_none_right_eq_some, Option.some.injEq, Prod.mk.injEq] at e
              obtain ⟨hlim, rfl, rfl⟩ := e
              have hl2 := st2.le.at hl
              obtain ⟨kvs, hH, hks, hr⟩ := sr2.ob _ _ _ hc hl2
              cases ry with
              | @dct bb more _ hb2 hr2 =>
                have ne : aa ≠ bb := fun q => by
                  subst q
                  have := sr2.nf _ (List.mem_of_getElem? hl2)
                  rw [this] at hb2; cases hb2
                subst hks
                simp only [List.length_map] at hlim
                refine ⟨aa, bb, kvs, more, rfl, rfl, ne, hH, sr2.ex _ _ hb2, Nat.le_of_lt (lim_lt hlim), ?_⟩
                obtain ⟨d1, d2⟩ := dspPut_merge hr2 hr
                have stw := sr2.stW (.dK (mergeK kvs more)) hl2
                exact k vw2 _ _ (st1.trans (st2.trans stw)) (sr2.write hl2 ⟨_, upd_same, d1, d2⟩) .non
            | _ => cases e
        | _ => rw [hc1] at e; simp at e
    | _ => cases e
  | [], _, h => simp [chk] at h
  | _ :: _ :: _, _, h => simp [chk] at h
  | [_], _ :: _, h => simp [chk] at h
/-! ### range(a, b, -1) -/
theorem wd_rangeD {K : PySem.W.Frag} {vw : Vw} (lo hi : Int) : WD K nm (Itc lo (-1) (lo - hi).toNat) (rangeD lo hi) vw := by
  have w : Walk (Itc lo (-1) (lo - hi).toNat) (lo - hi).toNat (fun _ => True) (YFn fun i => .int (lo + (i : Nat) * (-1))) := walk_rangeC
  unfold WD
  have e : (rangeD lo hi).length = (lo - hi).toNat := by simp [rangeD]
  rw [e]
  refine w.mono (fun H _ => trivial) fun i H x H' hi _ y vw1 h1 le sr => ?_
  obtain ⟨e1, e2⟩ := y
  subst e1 e2
  refine ⟨vw1, .int (lo + (i : Nat) * (-1)), Stp.rfl, sr, ?_, .int _⟩
  simp [rangeD, hi]
theorem ok_down {a b : E} (ha : OkE P G nm ad fdo n a) (hb : OkE P G nm ad fdo n b) : OkI P G nm ad fdo n (.down a b) := fun {x tg X T} S h => by
  cases x <;> try (simp only [chkI, Bool.false_eq_true] at h; done)
  rename_i fn args kws pos
  cases fn <;> try (simp only [chkI, Bool.false_eq_true] at h; done)
  rename_i y p
  match args, kws, h with
  | [a', b', c'], [], h =>
    simp only [chkI, Bool.and_eq_true] at h
    obtain ⟨⟨⟨⟨⟨⟨h1, h2⟩, h3⟩, h4⟩, h7⟩, h5⟩, h6⟩ := h
    have e0 := sEq_ok h1
    subst e0
    obtain ⟨g1, g2⟩ := gfree_ok S h2
    obtain ⟨k1, p1, q1, rfl⟩ := isM1_ok h7
    have C : PE X (.UnaryOp .USub (.Constant (.int 1) k1 p1) q1) (tC (.int (-1))) := (pe_un un_neg pe_int).imp fun σ H Q q => ⟨1, rfl, q⟩
    have A : PA X [a', b', .UnaryOp .USub (.Constant (.int 1) k1 p1) q1] (tCons (RdE X.K nm (ev P (run P n) a)) (tCons (RdE X.K nm (ev P (run P n) b)) (tCons (tC (.int (-1))) tNil))) := pa_cons (ha S h5).1 (pa_cons (hb S h6).1 (pa_cons C pa_nil (star_cons rfl _ _)) (star_cons h4 _ _)) (star_cons h3 _ _)
    refine PI.by fun σ H R q => ⟨_, pi_range3 g1 g2 A (by rw [star_cons h3]) (by rw [star_cons h4]; rfl), ?_⟩
    obtain ⟨vw, hh, δ, xs, h', sr, en, ee, k⟩ := q
    simp only [evI] at ee
    obtain ⟨⟨d, dh⟩, e1, e2⟩ := Option.bind_eq_some_iff.mp ee
    obtain ⟨⟨u, uh⟩, e3, e4⟩ := Option.bind_eq_some_iff.mp e2
    refine ⟨vw, hh, δ, d, dh, sr, en, e1, fun vw1 H1 v st1 sr1 rv => ?_⟩
    refine ⟨vw1, dh, δ, u, uh, sr1, en.mono st1.le, e3, fun vw2 H2 w st2 sr2 rw' => ?_⟩
    cases rv <;> simp only [reduceCtorEq] at e4
    cases rw' <;> simp only [reduceCtorEq, Option.ite_none_right_eq_some, Option.some.injEq, Prod.mk.injEq] at e4
    obtain ⟨hw, rfl, rfl⟩ := e4
    have hw := Bool.and_eq_true_iff.mp hw
    obtain ⟨w1, w2⟩ := within_ok hw.1
    obtain ⟨w3, w4⟩ := within_ok hw.2
    exact ⟨_, _, _, _, rfl, RgC.neg w1 w2 w3 w4, k vw2 H2 _ (st1.trans st2) sr2 (wd_rangeD _ _)⟩
  | [], _, h => simp [chkI] at h
  | [_], _, h => simp [chkI] at h
  | [_, _], _, h => simp [chkI] at h
  | _ :: _ :: _ :: _ :: _, _, h => simp [chkI] at h
  | [_, _, _], _ :: _, h => simp [chkI] at h
end
end VI

/-! VI, part K2: calls with keywords, pop, extend, dict(pairs), repr. -/
namespace VI
open PySem L2 PyProof.Rows
/-! ### o.m(k = v, ..) -/
section
variable {X : Cx} {CX : CXT} {k n : Nat} {C g : Addr} {fd : FuncData} {ps ks : List Str} {sp : Sp} {E : XK} {m : Str} {o : Expr} {kws : List Keyword} {pos apos : Pos} {ta : TE} {tk : TA} {pl : Sem Bool}
def tMethK (C : Addr) (m : Str) (c : Nat) (gV : List V → List V → List V) (sp : Sp) (E : XK) (ta : TE) (tk : TA) : TE := fun σ H Q => ta σ H fun x H1 => ∃ a dx fs, x = .ref a ∧ H1 a = some (.ins C dx fs) ∧ fs.lookup m = none ∧ tk σ H1 fun zs H2 => zs.length = c ∧ sp (gV [x] zs) H2 Q E
theorem pe_methK {gf : List Value → List Value → List Value} {gV : List V → List V → List V} (he : PE X o ta) (c : Cls X.K C) (hm : Meth X.K C m g) (F : FnOk X.prog X.w X.K X.mg X.base CX k g fd ps sp) (hr : Room k X.A) (hb : KBn X.K fd ps 1 ks gf gV) (hx : Passes CX X E) (hkw : PK X kws tk)
    (hall : kws.all (fun k => k.arg.isSome) = true) (hks : kws.filterMap (·.arg) = ks)
    (ht : eval (.Call (.Attribute o m apos) [] kws pos) X.env = (do
      let ov ← eval o X.env
      standAt apos.atName
      let (f, first) ← holding [ov] (getMethod ov m pl)
      callWith pos f first (backTo pos (starEach [] X.env)) (backToKw pos (keywordEach kws X.env)))) :
    PE X (.Call (.Attribute o m apos) [] kws pos) (tMethK C m ks.length gV sp E ta tk) := by
  refine ⟨fun pins s σ H Q I h => ?_⟩
  refine PySem.W.methodCall_KW (pl := pl) (thn (he.run pins s σ H _ I h) fun u s1 ⟨x, H1, I1, rx, a, dx, fs, ex, ea, l, q⟩ => ?_) ht
  subst ex
  obtain rfl : u = Value.ref a := rx
  refine getmeth_ok I1 ea c hm l ?_
  refine PySem.W.callWith_KW0 (first := [.ref a]) (h₀ := X.base) I.ok.mod.kin hm.kp (kw_all hall _ _) ?_ (by rw [kw_none hall]; rfl)
  refine thn (hkw.run pos pins s1 σ H1 _ I1 q) fun ws s3 ⟨zs, H2, I3, rz, l2, q2⟩ => ⟨I3.kIn, ?_⟩
  rw [kw_names, hks]
  exact run_fnN (us := [.ref a]) (vs := [.ref a]) F hr hb hx I3 (.cons rfl .nil) rz rfl l2 q2
end
section
variable {P : Pg} {G : Gm} {nm : Nm} {ad : Nat → Addr} {fdo : Nat → FuncData} {n : Nat}
theorem ok_methK {f : Nat} {o : E} {ks : EL} {perm : List Nat} (ho : OkE P G nm ad fdo n o) (hs : OkK P G nm ad fdo n ks) : OkE P G nm ad fdo n (.methK f o ks perm) := fun {x X T} S h => by
  cases x <;> try (simp only [chk, Bool.false_eq_true] at h; done)
  rename_i fn args kws pos
  cases fn <;> try (simp only [chk, Bool.false_eq_true] at h; done)
  rename_i o' m apos
  cases args with
  | cons _ _ => simp only [chk, Bool.false_eq_true] at h
  | nil =>
    simp only [chk, Bool.and_eq_true, decide_eq_true_eq] at h
    obtain ⟨⟨⟨⟨⟨⟨⟨h1, h2⟩, h3⟩, h4⟩, h5⟩, h6⟩, h7⟩, h8⟩ := h
    obtain ⟨d, ps, a1, a2, a3, a4, a5⟩ := defIs_ok h1.2
    have F := S.fns f d ps a1 a3 (ngr_ok h1.1)
    have B := S.fac.kwb f ps 1 _ perm (of_decide_eq_true h2) a3
    have hr : Room (2 * n) X.A := S.room.mono (by omega)
    refine mkPlain ⟨fun pins s σ H Q I q => ?_⟩ rfl
    obtain ⟨vw, hh, δ, r, h', sr, en, e, k⟩ := q
    simp only [ev] at e
    obtain ⟨⟨od, oh⟩, e1, e⟩ := Option.bind_eq_some_iff.mp e
    obtain ⟨⟨l, c, fs⟩, e2, e⟩ := Option.bind_eq_some_iff.mp e
    obtain ⟨⟨ds, hx⟩, e3, e⟩ := Option.bind_eq_some_iff.mp e
    rw [a1] at e
    simp only [Option.ite_none_right_eq_some] at e
    obtain ⟨hc, e⟩ := e
    obtain ⟨m1, m2, m3⟩ := S.fac.meth f d m c a1 a2 a4 hc
    refine (pe_methK (E := E0) (ho S h7).1 m2 m1 F hr B pass0 (hs S h8) h3 rfl (meth_treeK h5 rfl h3 (by simpa using h4) h6)).run pins s σ H Q I ?_
    refine ⟨vw, hh, δ, od, oh, sr, en, e1, fun vw1 H1 v st1 sr1 rv => ?_⟩
    obtain ⟨a, dx, gs, ea, ed, hl, hcell, hH, hn, hrs⟩ := ins_of sr1 rv e2
    refine ⟨a, dx, gs, ea, hH, no_field hn m3, ?_⟩
    refine ⟨vw1, oh, δ, ds, hx, sr1, en.mono st1.le, e3, fun vw2 H2 vs st2 sr2 rs => ⟨?_, ?_⟩⟩
    · rw [rs.length, evs_len h8 e3, List.length_map]
      exact kws_len h3
    · exact sp_of (st1.trans st2) sr2 (Reps.perm (.cons (rv.mono st2.le) .nil) rs perm) e k
/-! ### calls of guarded defs -/
theorem ok_callG {f : Nat} {es : EL} (hs : OkA P G nm ad fdo n es) : OkE P G nm ad fdo n (.callG f es) := fun {x X T} S h => by
  cases x <;> try (simp only [chk, Bool.false_eq_true] at h; done)
  rename_i fn args kws pos
  cases fn <;> try (simp only [chk, Bool.false_eq_true] at h; done)
  rename_i y p
  match args, kws, h with
  | a :: as, [], h =>
    simp only [chk, Bool.and_eq_true] at h
    obtain ⟨⟨⟨⟨⟨⟨⟨h0, h1⟩, h2⟩, h3⟩, h4⟩, h5⟩, h6⟩, h7⟩ := h
    obtain ⟨d, ps, a1, a2, a3, a4, a5⟩ := defIs_ok h2
    obtain ⟨g1, g2⟩ := S.fac.glob f d y a1 a2 a4
    have F := S.fng f d ps a1 a3 h1
    have B := S.fac.bind f ps a3 a5
    have hr : Room (2 * n) X.A := S.room.mono (by omega)
    refine mkPlain ((pe_callG (E := E0) F (S.gd h0) hr (S.gl h3) g1 g2 B (hs S h7 (by rw [List.all_cons, h5, h6]; rfl)) (nDbg_ok h4).1 (star_cons h5 _ _) (star_any h6 _ _)).imp ?_) rfl
    rintro σ H Q ⟨vw, hh, δ, r, h', sr, en, e, k⟩
    simp only [ev] at e
    obtain ⟨⟨ds, hx⟩, e1, e⟩ := Option.bind_eq_some_iff.mp e
    refine ⟨vw, hh, δ, ds, hx, sr, en, e1, fun vw1 H1 vs st1 sr1 rs => ?_⟩
    show spI X.K nm P n f (vs ++ []) H1 Q E0
    rw [List.append_nil]
    exact sp_of st1 sr1 rs e k
  | [], _, h => simp [chk] at h
  | _ :: _, _ :: _, h => simp [chk] at h
/-! ### o.pop(i), o.pop(), o.extend(e) -/
theorem reps_erase {K : PySem.W.Frag} {vw : Vw} : ∀ {vs : List V} {ds : List D} (i : Nat), Reps K vw vs ds → Reps K vw (vs.eraseIdx i) (ds.eraseIdx i)
  | _, _, _, .nil => .nil
  | _, _, 0, .cons _ r => r
  | _, _, i + 1, .cons h r => .cons h (reps_erase i r)
theorem reps_dropLast {K : PySem.W.Frag} {vw : Vw} : ∀ {vs : List V} {ds : List D}, Reps K vw vs ds → Reps K vw vs.dropLast ds.dropLast := fun {vs ds} r => by
  rw [List.dropLast_eq_take, List.dropLast_eq_take, r.length]
  exact r.take _
theorem seqIx {i : Int} {n : Nat} (h0 : 0 ≤ i) (h1 : i.toNat < n) : seqIndex? i n = some i.toNat := by
  have a : ¬ i < 0 := by omega
  have b : (decide (0 ≤ i) && decide (i < (n : Int))) = true := by
    rw [Bool.and_eq_true, decide_eq_true_eq, decide_eq_true_eq]; omega
  simp only [seqIndex?, a, if_false, b, if_true]
theorem ok_popA {o i : E} (ho : OkE P G nm ad fdo n o) (hi : OkE P G nm ad fdo n i) : OkE P G nm ad fdo n (.popA o i) := fun {x X T} S h => by
  cases x <;> try (simp only [chk, Bool.false_eq_true] at h; done)
  rename_i fn args kws pos
  cases fn <;> try (simp only [chk, Bool.false_eq_true] at h; done)
  rename_i o' m apos
  match args, kws, h with
  | [a'], [], h =>
    simp only [chk, Bool.and_eq_true] at h
    obtain ⟨⟨⟨⟨⟨h1, h2⟩, h3⟩, h4⟩, h5⟩, h6⟩ := h
    have e0 := sEq_ok h1
    subst e0
    have A : PA X [a'] (tCons (RdE X.K nm (ev P (run P n) i)) tNil) := pa_cons (hi S h6).1 pa_nil (star_cons h4 _ _)
    have few : ((backTo pos (starEach [a'] X.env)).all (fun x => !x.1) && (backToKw pos (keywordEach [] X.env)).all (fun x => x.1.isSome) && decide (([a'] : List Expr).length + ([] : List Keyword).length + (if ([] : List Keyword).isEmpty then 0 else 1) < 30)) = true := by
      rw [star_all (by simp [h4])]; rfl
    refine mkPlain ((pe_bm PySem.F.plainAttrs_list PySem.F.slot_list_pop PySem.F.type_list_pop mt_popAt (ho S h5).1 A (base_plain h2 _ _) few h3 (star_cons h4 _ _) (star_any rfl _ _)).imp ?_) rfl
    rintro σ H Q ⟨vw, hh, δ, r, h', sr, en, e, k⟩
    simp only [ev] at e
    obtain ⟨⟨od, oh⟩, e1, e⟩ := Option.bind_eq_some_iff.mp e
    obtain ⟨⟨qd, qh⟩, e2, e⟩ := Option.bind_eq_some_iff.mp e
    refine ⟨vw, hh, δ, od, oh, sr, en, e1, fun vw1 H1 v st1 sr1 rv => ?_⟩
    cases rv with
    | @ref a l hl =>
      cases qd <;> simp only [reduceCtorEq] at e
      rename_i kk
      cases hc1 : oh[l]? with
      | none => rw [hc1] at e; simp at e
      | some ob1 =>
        cases ob1 with
        | lst ys1 =>
          obtain ⟨vs1, hH1, _⟩ := sr1.ob _ _ _ hc1 hl
          refine ⟨.inl ⟨rfl, vs1, SqL.of hH1⟩, ?_⟩
          refine ⟨vw1, oh, δ, _, qh, sr1, en.mono st1.le, e2, fun vw2 H2 y st2 sr2 ry => ?_⟩
          cases ry
          rw [hc1] at e
          cases hc : qh[l]? with
          | none => rw [hc] at e; cases e
          | some ob =>
            rw [hc] at e
            cases ob with
            | lst ys =>
              simp only [Option.ite_none_right_eq_some] at e
              obtain ⟨⟨h0, hw⟩, e⟩ := e
              obtain ⟨y, ey, e3⟩ := Option.map_eq_some_iff.mp e
              simp only [Prod.mk.injEq] at e3
              obtain ⟨rfl, rfl⟩ := e3
              have hl2 := st2.le.at hl
              obtain ⟨vs, hH, hr⟩ := sr2.ob _ _ _ hc hl2
              obtain ⟨v, ev, rv⟩ := hr.at ey
              obtain ⟨w1, w2⟩ := within_ok hw
              have hlt := (List.getElem?_eq_some_iff.mp ev).1
              refine ⟨a, vs, kk, kk.toNat, v, rfl, rfl, hH, by omega, by omega, ?_, ev, ?_⟩
              · exact seqIx h0 hlt
              have stw := sr2.stW (.lst (vs.eraseIdx kk.toNat)) hl2
              exact k vw2 _ _ (st1.trans (st2.trans stw)) (sr2.write hl2 ⟨_, upd_same, reps_erase _ hr⟩) rv
            | _ => cases e
        | _ => rw [hc1] at e; simp at e
    | _ => cases e
  | [], _, h => simp [chk] at h
  | _ :: _ :: _, _, h => simp [chk] at h
  | [_], _ :: _, h => simp [chk] at h
theorem ok_popL {o : E} (ho : OkE P G nm ad fdo n o) : OkE P G nm ad fdo n (.popL o) := fun {x X T} S h => by
  cases x <;> try (simp only [chk, Bool.false_eq_true] at h; done)
  rename_i fn args kws pos
  cases fn <;> try (simp only [chk, Bool.false_eq_true] at h; done)
  rename_i o' m apos
  match args, kws, h with
  | [], [], h =>
    simp only [chk, Bool.and_eq_true] at h
    obtain ⟨⟨⟨h1, h2⟩, h3⟩, h5⟩ := h
    have e0 := sEq_ok h1
    subst e0
    refine mkPlain ((pe_bm0 PySem.F.plainAttrs_list PySem.F.slot_list_pop PySem.F.type_list_pop mt_pop (ho S h5).1 (base_plain h2 _ _) h3).imp ?_) rfl
    rintro σ H Q ⟨vw, hh, δ, r, h', sr, en, e, k⟩
    simp only [ev] at e
    obtain ⟨⟨od, oh⟩, e1, e⟩ := Option.bind_eq_some_iff.mp e
    refine ⟨vw, hh, δ, od, oh, sr, en, e1, fun vw1 H1 v st1 sr1 rv => ?_⟩
    cases rv with
    | @ref a l hl =>
      dsimp only at e
      cases hc1 : oh[l]? with
      | none => rw [hc1] at e; simp at e
      | some ob1 =>
        rw [hc1] at e
        cases ob1 with
        | lst ys =>
          obtain ⟨vs, hH, hr⟩ := sr1.ob _ _ _ hc1 hl
          obtain ⟨y, ey, e3⟩ := Option.map_eq_some_iff.mp e
          simp only [Prod.mk.injEq] at e3
          obtain ⟨rfl, rfl⟩ := e3
          obtain ⟨v, ev, rv⟩ := hr.at ey
          refine ⟨.inl ⟨rfl, vs, SqL.of hH⟩, a, vs, v, rfl, rfl, hH, by rw [hr.length]; exact ev, ?_⟩
          have stw := sr1.stW (.lst vs.dropLast) hl
          exact k vw1 _ _ (st1.trans stw) (sr1.write hl ⟨_, upd_same, reps_dropLast hr⟩) rv
        | _ => cases e
    | _ => cases e
  | [], _ :: _, h => simp [chk] at h
  | _ :: _, _, h => simp [chk] at h
theorem ok_ext {o e0 : E} (ho : OkE P G nm ad fdo n o) (he : OkE P G nm ad fdo n e0) : OkE P G nm ad fdo n (.ext o e0) := fun {x X T} S h => by
  cases x <;> try (simp only [chk, Bool.false_eq_true] at h; done)
  rename_i fn args kws pos
  cases fn <;> try (simp only [chk, Bool.false_eq_true] at h; done)
  rename_i o' m apos
  match args, kws, h with
  | [a'], [], h =>
    simp only [chk, Bool.and_eq_true] at h
    obtain ⟨⟨⟨⟨⟨h1, h2⟩, h3⟩, h4⟩, h5⟩, h6⟩ := h
    have e00 := sEq_ok h1
    subst e00
    have A : PA X [a'] (tCons (RdE X.K nm (ev P (run P n) e0)) tNil) := pa_cons (he S h6).1 pa_nil (star_cons h4 _ _)
    have few : ((backTo pos (starEach [a'] X.env)).all (fun x => !x.1) && (backToKw pos (keywordEach [] X.env)).all (fun x => x.1.isSome) && decide (([a'] : List Expr).length + ([] : List Keyword).length + (if ([] : List Keyword).isEmpty then 0 else 1) < 30)) = true := by
      rw [star_all (by simp [h4])]; rfl
    refine mkPlain ((pe_bm PySem.F.plainAttrs_list PySem.F.slot_list_extend PySem.F.type_list_extend mt_extend (ho S h5).1 A (base_plain h2 _ _) few h3 (star_cons h4 _ _) (star_any rfl _ _)).imp ?_) rfl
    rintro σ H Q ⟨vw, hh, δ, r, h', sr, en, e, k⟩
    simp only [ev] at e
    obtain ⟨⟨od, oh⟩, e1, e⟩ := Option.bind_eq_some_iff.mp e
    obtain ⟨⟨qd, qh⟩, e2, e⟩ := Option.bind_eq_some_iff.mp e
    refine ⟨vw, hh, δ, od, oh, sr, en, e1, fun vw1 H1 v st1 sr1 rv => ?_⟩
    cases rv with
    | @ref a l hl =>
      cases qd <;> simp only [reduceCtorEq] at e
      rename_i zs
      cases hc1 : oh[l]? with
      | none => rw [hc1] at e; simp at e
      | some ob1 =>
        cases ob1 with
        | lst ys1 =>
          obtain ⟨vs1, hH1, _⟩ := sr1.ob _ _ _ hc1 hl
          refine ⟨.inl ⟨rfl, vs1, SqL.of hH1⟩, ?_⟩
          refine ⟨vw1, oh, δ, _, qh, sr1, en.mono st1.le, e2, fun vw2 H2 y st2 sr2 ry => ?_⟩
          rw [hc1] at e
          cases hc : qh[l]? with
          | none => rw [hc] at e; cases e
          | some ob =>
            rw [hc] at e
            cases ob with
            | lst ys =>
              simp only [Option.ite_none_right_eq_some, Option.some.injEq, Prod.mk.injEq] at e
              obtain ⟨hlim, rfl, rfl⟩ := e
              have hl2 := st2.le.at hl
              obtain ⟨vs, hH, hr⟩ := sr2.ob _ _ _ hc hl2
              cases ry with
              | @lst bb us _ hb2 hr2 =>
                refine ⟨a, bb, vs, us, rfl, rfl, hH, sr2.ex _ _ hb2, by rw [hr.length, hr2.length]; exact Nat.le_of_lt (lim_lt hlim), ?_⟩
                have stw := sr2.stW (.lst (vs ++ us)) hl2
                exact k vw2 _ _ (st1.trans (st2.trans stw)) (sr2.write hl2 ⟨_, upd_same, hr.append hr2⟩) .non
            | _ => cases e
        | _ => rw [hc1] at e; simp at e
    | _ => cases e
  | [], _, h => simp [chk] at h
  | _ :: _ :: _, _, h => simp [chk] at h
  | [_], _ :: _, h => simp [chk] at h
/-! ### a[:hi] in a cell -/
theorem ok_mslH {a hi : E} (ha : OkE P G nm ad fdo n a) (hl : OkE P G nm ad fdo n hi) : OkE P G nm ad fdo n (.mslH a hi) := fun {x X T} S h => by
  cases x <;> try (simp only [chk, Bool.false_eq_true] at h; done)
  rename_i a' s' pos
  cases s' <;> try (simp only [chk, Bool.false_eq_true] at h; done)
  rename_i l' u' st' p2
  match l', u', st', h with
  | none, some hi', none, h =>
    simp only [chk, Bool.and_eq_true] at h
    obtain ⟨h1, h2⟩ := h
    refine mkPlain ((pe_slice sl_list (ha S h1).1 po_none (po_some (hl S h2).1)).imp ?_) rfl
    rintro σ H Q ⟨vw, hh, δ, r, h', sr, en, e, k⟩
    simp only [ev] at e
    obtain ⟨⟨pd, ph⟩, e1, e⟩ := Option.bind_eq_some_iff.mp e
    obtain ⟨⟨qd, qh⟩, e2, e⟩ := Option.bind_eq_some_iff.mp e
    refine ⟨vw, hh, δ, pd, ph, sr, en, e1, fun vw1 H1 v st1 sr1 rv => ?_⟩
    refine ⟨vw1, ph, δ, qd, qh, sr1, en.mono st1.le, e2, fun vw2 H2 x st2 sr2 rx => ?_⟩
    cases rx <;> simp only [reduceCtorEq] at e
    rename_i j
    refine ⟨_, rfl, ?_⟩
    obtain ⟨xs, e4, e5⟩ := Option.map_eq_some_iff.mp e
    simp only [Prod.mk.injEq] at e5
    obtain ⟨rfl, rfl⟩ := e5
    obtain ⟨p, vs, ea, hs, rr⟩ := lst_of sr2 (rv.mono st2.le) e4
    refine ⟨p, vs, ea, hs, fun q hq => ?_⟩
    have st := sr2.stM (.lst (cutV vs none (some j))) hq
    have cr := cut_reps (rr.mono st.le) none (some j)
    exact k _ _ _ (st1.trans (st2.trans st)) (sr2.newM hq ⟨_, upd_same, cr⟩) (.ref (newM_at sr2.len))
  | some _, u2, s2, h => cases u2 <;> cases s2 <;> simp [chk] at h
  | none, none, s2, h => cases s2 <;> simp [chk] at h
  | none, some _, some _, h => simp [chk] at h
/-! ### dict(pairs) -/
theorem pairs_reps {K : PySem.W.Frag} {vw : Vw} : ∀ {ds : List D} {vs : List V} {ps : List (D × D)}, Reps K vw vs ds → pairsOf ds = some ps → ∃ (as : List Addr) (kvs : List (Key × V)) (ws : List D), vs = as.map V.ref ∧ Paired (fun p kv => SqT K vw.F p [kV kv.1, kv.2]) as kvs ∧ ps = (kvs.map fun p => keyD p.1).zip ws ∧ Reps K vw (kvs.map (·.2)) ws
  | [], [], ps, .nil, e => by
    simp only [pairsOf, Option.some.injEq] at e
    subst e
    exact ⟨[], [], [], rfl, .nil, rfl, .nil⟩
  | d :: ds, v :: vs, ps, .cons r rs, e => by
    cases r with
    | @tup a xs es ht hr =>
      match es, hr, e with
      | [kd, vd], hr, e =>
        simp only [pairsOf, Option.ite_none_right_eq_some] at e
        obtain ⟨hk, e⟩ := e
        obtain ⟨ps', e1, e2⟩ := Option.map_eq_some_iff.mp e
        subst e2
        obtain ⟨as, kvs, ws, h1, h2, h3, h4⟩ := pairs_reps rs e1
        cases hr with
        | cons rk hr =>
          cases hr with
          | cons rv hr =>
            cases hr
            subst h1 h3
            cases rk with
            | int i => exact ⟨a :: as, (.inl i, _) :: kvs, vd :: ws, rfl, .cons ht h2, rfl, .cons rv h4⟩
            | str s => exact ⟨a :: as, (.inr (toS s), _) :: kvs, vd :: ws, rfl, .cons ht h2, by simp only [List.map_cons, List.zip_cons_cons, keyD, toS_cps], .cons rv h4⟩
            | _ => simp [isKey] at hk
      | [], _, e => simp [pairsOf] at e
      | [_], _, e => simp [pairsOf] at e
      | _ :: _ :: _ :: _, _, e => simp [pairsOf] at e
    | _ => simp [pairsOf] at e
theorem paired_imp {α β : Type} {F F' : α → β → Prop} (i : ∀ a b, F a b → F' a b) : ∀ {l : List α} {m : List β}, Paired F l m → Paired F' l m
  | _, _, .nil => .nil
  | _, _, .cons h r => .cons (i _ _ h) (paired_imp i r)
theorem ok_dpr {a : E} (ha : OkE P G nm ad fdo n a) : OkE P G nm ad fdo n (.dpr a) := fun {x X T} S h => by
  cases x <;> try (simp only [chk, Bool.false_eq_true] at h; done)
  rename_i fn args kws pos
  cases fn <;> try (simp only [chk, Bool.false_eq_true] at h; done)
  rename_i y p
  match args, kws, h with
  | [a'], [], h =>
    simp only [chk, Bool.and_eq_true] at h
    obtain ⟨⟨⟨h1, h2⟩, h3⟩, h4⟩ := h
    have e0 := sEq_ok h1
    subst e0
    obtain ⟨g1, g2⟩ := gfree_ok S h2
    have A : PA X [a'] (tCons (RdE X.K nm (ev P (run P n) a)) tNil) := pa_cons (ha S h4).1 pa_nil (star_cons h3 _ _)
    refine mkPlain ((pe_callTy (call_dictP S.calm) g1 g2 (by decide +kernel) A (by decide) (by decide) (star_cons h3 _ _) (star_any rfl _ _)).imp ?_) rfl
    rintro σ H Q ⟨vw, hh, δ, r, h', sr, en, e, k⟩
    simp only [ev] at e
    obtain ⟨⟨pd, ph⟩, e1, e⟩ := Option.bind_eq_some_iff.mp e
    refine ⟨vw, hh, δ, pd, ph, sr, en, e1, fun vw1 H1 v st1 sr1 rv => ?_⟩
    cases rv with
    | @lst b xs ds hb hr =>
      obtain ⟨ps, e2, e3⟩ := Option.map_eq_some_iff.mp e
      simp only [Prod.mk.injEq] at e3
      obtain ⟨rfl, rfl⟩ := e3
      obtain ⟨as, kvs, ws, q1, q2, q3, q4⟩ := pairs_reps hr e2
      subst q1 q3
      refine ⟨b, as, kvs, rfl, SqL.of (sr1.ex _ _ hb), paired_imp (fun a b z => sr1.ex.sqT z) q2, fun p hp => ?_⟩
      have st := sr1.stM (.dK (mergeK [] kvs)) hp
      obtain ⟨d1, d2⟩ := dspPut_merge (kvs := []) (ws := []) q4 .nil
      exact k _ _ _ (st1.trans st) (sr1.newM hp ⟨_, upd_same, d1, d2.mono st.le⟩) (.ref (newM_at sr1.len))
    | _ => cases e
  | [], _, h => simp [chk] at h
  | _ :: _ :: _, _, h => simp [chk] at h
  | [_], _ :: _, h => simp [chk] at h
/-! ### repr(a) == repr(b) -/
theorem int_len : ∀ k : Nat, k < 1000 → (decide ((PyData.shown (.int (k : Int))).length ≤ 13) && decide ((PyData.shown (.int (-(k : Int)))).length ≤ 13)) = true := by decide +kernel
theorem log_lt {i : Int} (h : i.natAbs < 1000) : i.natAbs.log2 < 10 := by
  by_cases z : i.natAbs = 0
  · rw [z]; decide
  · exact (Nat.log2_lt z).mpr (by omega)
mutual
theorem shw_py : ∀ (x : D), D.shw x = true → (toPy x).showable = true ∧ (toPy x).intsShort 13 = true ∧ (toPy x).weight ≤ D.wgt x
  | .non, _ => ⟨rfl, rfl, Nat.le_refl _⟩
  | .bl _, _ => ⟨rfl, rfl, Nat.le_refl _⟩
  | .int i, h => by
    have h : i.natAbs < 1000 := by simpa [D.shw] using h
    have l := log_lt h
    refine ⟨?_, ?_, ?_⟩
    · simp only [toPy, PyData.showable]
      exact decide_eq_true (by omega)
    · simp only [toPy, PyData.intsShort]
      refine decide_eq_true ?_
      have q := int_len i.natAbs h
      simp only [Bool.and_eq_true, decide_eq_true_eq] at q
      rcases Int.natAbs_eq i with e | e
      · rw [e]; exact q.1
      · rw [e]; exact q.2
    · simp only [toPy, PyData.weight, D.wgt]
      split <;> omega
  | .str s, _ => ⟨rfl, rfl, by simp [toPy, PyData.weight, D.wgt, toS]⟩
  | .tup xs, h => by
    obtain ⟨a, b, c⟩ := shws_py xs (by simpa [D.shw] using h)
    exact ⟨by simpa [toPy, PyData.showable] using a, by simpa [toPy, PyData.intsShort] using b, by simpa [toPy, PyData.weight, D.wgt] using c⟩
  | .lst xs, h => by
    obtain ⟨a, b, c⟩ := shws_py xs (by simpa [D.shw] using h)
    exact ⟨by simpa [toPy, PyData.showable] using a, by simpa [toPy, PyData.intsShort] using b, by simpa [toPy, PyData.weight, D.wgt] using c⟩
  | .dct _ _, h => by simp [D.shw] at h
  | .ref _, h => by simp [D.shw] at h
  | .scr _, h => by simp [D.shw] at h
theorem shws_py : ∀ (xs : List D), D.shws xs = true → PyData.showableAll (toPys xs) = true ∧ PyData.intsShortAll 13 (toPys xs) = true ∧ PyData.weightAll (toPys xs) ≤ D.wgts xs
  | [], _ => ⟨rfl, rfl, Nat.le_refl _⟩
  | x :: xs, h => by
    have h : D.shw x = true ∧ D.shws xs = true := by simpa [D.shws] using h
    obtain ⟨a, b, c⟩ := shw_py x h.1
    obtain ⟨a', b', c'⟩ := shws_py xs h.2
    refine ⟨by simp [toPys, PyData.showableAll, a, a'], by simp [toPys, PyData.intsShortAll, b, b'], ?_⟩
    simp only [toPys, PyData.weightAll, D.wgts]; omega
end
structure Shw (d : PyData) : Prop where
  lay : d.layable0 = true
  shw : d.showable = true
  sh : d.intsShort 13 = true
theorem shw_of {x : D} (h : repOk x = true) : Shw (toPy x) := by
  unfold repOk at h
  simp only [Bool.and_eq_true, decide_eq_true_eq] at h
  obtain ⟨⟨⟨h1, h2⟩, h3⟩, h4⟩ := h
  obtain ⟨a, b, c⟩ := shw_py x h3
  obtain ⟨l1, l2⟩ := lay_py 50 x h2
  refine ⟨?_, a, b⟩
  unfold PyData.layable0
  rw [l1, decide_eq_true (by omega), decide_eq_true (by omega)]; rfl
def rRep (K : PySem.W.Frag) : List V → Hp → VK → Prop := fun xs H Q => ∃ v d, xs = [v] ∧ Dp K H v d ∧ Shw d ∧ ((∃ a, v = .ref a) ∨ ∃ i, v = .int i) ∧ Q (.str d.shown) H
theorem call_rep {X : Cx} (gd : X.A.guards = some []) (hu : X.A.units + 65 < cLine) : CallR X (.builtin "repr") (rRep X.K) := by
  intro pins s σ H xs us Q I r h
  obtain ⟨v, d, rfl, hd, sw, ty, q⟩ := h
  rcases ty with ⟨a, rfl⟩ | ⟨i, rfl⟩
  · obtain ⟨u, rfl, t⟩ := vals1 r
    obtain rfl : u = Value.ref a := t
    obtain ⟨as, rd⟩ := Dp.reads I d _ _ hd rfl
    have dp := PyData.depth_le_of_layable sw.lay
    refine repr_of_reads' (h₀ := s.heap) rd sw.shw (PyData.noDict_hsm (PyData.hasDict_of_layable sw.lay)) gd (by omega) (fun _ _ e => e) (fun h' u tk hk => ?_) (Nat.le_trans (shown_le13 sw.lay sw.sh) (by decide))
    exact ⟨.str d.shown, H, I.kept (t' := tk) hk, ⟨_, rfl⟩, q⟩
  · cases hd
    refine SkE.call_repr_int pins s σ H _ us Q I r ⟨i, rfl, ?_, q⟩
    have := sw.shw
    simpa [PyData.showable] using this
theorem drf_dp {X : Cx} {vw : Vw} {H : Hp} {h : Hh} {v : V} {d : D} {m : Nat} (sr : SR X.K nm vw H h) (rv : Rep X.K vw v d) (p : D.plain m (drf h d) = true) : Dp X.K H v (toPy (drf h d)) := by
  cases rv with
  | @ref a l hl =>
    cases hc : h[l]? with
    | none => simp only [drf, hc] at p; cases m <;> simp [D.plain] at p
    | some ob =>
      cases ob with
      | lst xs =>
        have e : drf h (.ref l) = .lst xs := by simp only [drf, hc]
        rw [e] at p ⊢
        obtain ⟨vs, hH, hr⟩ := sr.ob _ _ _ hc hl
        cases m with
        | zero => simp [D.plain] at p
        | succ m => exact .lst (SqL.of hH) (dps_of sr.ex (n := m) hr (by simpa [D.plain] using p))
      | dct _ _ => simp only [drf, hc] at p; cases m <;> simp [D.plain] at p
      | ins _ _ => simp only [drf, hc] at p; cases m <;> simp [D.plain] at p
  | non => exact dp_of sr.ex .non p
  | bl b => exact dp_of sr.ex (.bl b) p
  | int i => exact dp_of sr.ex (.int i) p
  | str s => exact dp_of sr.ex (.str s) p
  | tup a b => exact dp_of sr.ex (.tup a b) p
  | lst a b => exact dp_of sr.ex (.lst a b) p
  | scr a b => simp only [drf] at p; cases m <;> simp [D.plain] at p
  | dct a b => simp only [drf] at p; cases m <;> simp [D.plain] at p
theorem top_ref {K : PySem.W.Frag} {vw : Vw} {h : Hh} {v : V} {d : D} (rv : Rep K vw v d) (t : topR (drf h d) = true) : (∃ a, v = .ref a) ∨ ∃ i, v = .int i := by
  cases rv <;> first | exact .inl ⟨_, rfl⟩ | exact .inr ⟨_, rfl⟩ | (simp [drf, topR] at t)
mutual
theorem same_eq : ∀ {a b : D}, same a b = true → a = b
  | .non, b, h => by cases b <;> first | rfl | (simp [same] at h)
  | .bl x, b, h => by cases b <;> first | (simp [same] at h; done) | (simp [same] at h; subst h; rfl)
  | .int x, b, h => by cases b <;> first | (simp [same] at h; done) | (simp [same] at h; subst h; rfl)
  | .str x, b, h => by cases b <;> first | (simp [same] at h; done) | (simp [same] at h; subst h; rfl)
  | .tup xs, b, h => by
    cases b with
    | tup ys => exact congrArg D.tup (sames_eq (by simpa [same] using h))
    | _ => simp [same] at h
  | .lst xs, b, h => by
    cases b with
    | lst ys => exact congrArg D.lst (sames_eq (by simpa [same] using h))
    | _ => simp [same] at h
  | .dct _ _, b, h => by cases b <;> simp [same] at h
  | .ref _, b, h => by cases b <;> simp [same] at h
  | .scr _, b, h => by cases b <;> simp [same] at h
theorem sames_eq : ∀ {a b : List D}, sames a b = true → a = b
  | [], b, h => by cases b with
    | nil => rfl
    | cons _ _ => simp [sames] at h
  | x :: xs, b, h => by
    cases b with
    | nil => simp [sames] at h
    | cons y ys =>
      simp only [sames, Bool.and_eq_true] at h
      rw [same_eq h.1, sames_eq h.2]
end
theorem ok_eqR {neg : Bool} {a b : E} (ha : OkE P G nm ad fdo n a) (hb : OkE P G nm ad fdo n b) : OkE P G nm ad fdo n (.eqR neg a b) := fun {x X T} S h => by
  cases x <;> try (simp only [chk, Bool.false_eq_true] at h; done)
  rename_i x' ops ys pos
  match ops, ys, h with
  | [op], [y'], h =>
    simp only [chk] at h
    cases c1 : repArg x' with
    | none => rw [c1] at h; simp at h
    | some p1 =>
      cases c2 : repArg y' with
      | none => rw [c1, c2] at h; simp at h
      | some p2 =>
        obtain ⟨u, a'⟩ := p1
        obtain ⟨v, b'⟩ := p2
        rw [c1, c2] at h
        simp only [Bool.and_eq_true] at h
        obtain ⟨⟨⟨⟨⟨⟨⟨⟨⟨h0, h1⟩, h2⟩, h3⟩, h4⟩, h5⟩, h6⟩, h7⟩, h8⟩, h9⟩ := h
        obtain ⟨pa, qa, rfl⟩ := repArg_ok c1
        obtain ⟨pb, qb, rfl⟩ := repArg_ok c2
        have eu := sEq_ok h2
        have ev' := sEq_ok h4
        subst eu ev'
        obtain ⟨g1, g2⟩ := gfree_ok S h3
        have CR := call_rep (S.gd h0) S.hu
        have A : PA X [a'] (tCons (RdE X.K nm (ev P (run P n) a)) tNil) := pa_cons (ha S h8).1 pa_nil (star_cons h6 _ _)
        have B : PA X [b'] (tCons (RdE X.K nm (ev P (run P n) b)) tNil) := pa_cons (hb S h9).1 pa_nil (star_cons h7 _ _)
        have CA : PE X (.Call (.Name "repr" pa) [a'] [] qa) (tCB (rRep X.K) (tCons (RdE X.K nm (ev P (run P n) a)) tNil)) := pe_callB CR g1 g2 (by decide +kernel) A (by decide) (by decide) (star_cons h6 _ _) (star_any rfl _ _)
        have CB : PE X (.Call (.Name "repr" pb) [b'] [] qb) (tCB (rRep X.K) (tCons (RdE X.K nm (ev P (run P n) b)) tNil)) := pe_callB CR g1 g2 (by decide +kernel) B (by decide) (by decide) (star_cons h7 _ _) (star_any rfl _ _)
        have key : ∀ (r : R2) σ H Q, (∀ t H' Q', Q' (.bl !neg) H' → r (.str t) (.str t) H' Q') → RdE X.K nm (ev P (run P n) (.eqR neg a b)) σ H Q → tOp r (tCB (rRep X.K) (tCons (RdE X.K nm (ev P (run P n) a)) tNil)) (tCB (rRep X.K) (tCons (RdE X.K nm (ev P (run P n) b)) tNil)) σ H Q := fun r σ H Q hr q => by
          obtain ⟨vw, hh, δ, d0, h', sr, en, e, k⟩ := q
          simp only [ev] at e
          obtain ⟨⟨pd, ph⟩, e1, e⟩ := Option.bind_eq_some_iff.mp e
          obtain ⟨⟨qd, qh⟩, e2, e⟩ := Option.bind_eq_some_iff.mp e
          simp only [Option.ite_none_right_eq_some, Bool.and_eq_true, Option.some.injEq, Prod.mk.injEq] at e
          obtain ⟨⟨ok, sm⟩, rfl, rfl⟩ := e
          have eq := same_eq sm
          have ok2 := ok
          rw [eq] at ok2
          have pl : ∀ {z : D}, repOk z = true → D.plain 50 z = true ∧ topR z = true := fun {z} w => by
            unfold repOk at w
            simp only [Bool.and_eq_true] at w
            exact ⟨w.1.1.2, w.1.1.1⟩
          refine ⟨vw, hh, δ, pd, ph, sr, en, e1, fun vw1 H1 v st1 sr1 rv => ?_⟩
          refine ⟨v, _, rfl, drf_dp sr1 rv (pl ok).1, shw_of ok, top_ref rv (pl ok).2, ?_⟩
          refine ⟨vw1, ph, δ, qd, qh, sr1, en.mono st1.le, e2, fun vw2 H2 w st2 sr2 rw' => ?_⟩
          refine ⟨w, _, rfl, drf_dp sr2 rw' (pl ok2).1, shw_of ok2, top_ref rw' (pl ok2).2, ?_⟩
          rw [eq]
          exact hr _ _ _ (k vw2 H2 _ (st1.trans st2) sr2 (.bl _))
        have two : ∀ {op : CmpOp} {r : R2} {g : Ev → Hh → Option (D × Hh)}, OpR X (compareOp op) r → behindInMarks op (.Call (.Name "repr" pb) [b'] [] qb) = false → (∀ σ H Q, RdE X.K nm g σ H Q → tOp r (tCB (rRep X.K) (tCons (RdE X.K nm (ev P (run P n) a)) tNil)) (tCB (rRep X.K) (tCons (RdE X.K nm (ev P (run P n) b)) tNil)) σ H Q) →
            PE X (.Compare (.Call (.Name "repr" pa) [a'] [] qa) [op] [.Call (.Name "repr" pb) [b'] [] qb] pos) (RdE X.K nm g) ∧ (nif (.Compare (.Call (.Name "repr" pa) [a'] [] qa) [op] [.Call (.Name "repr" pb) [b'] [] qb] pos) = true → PT X (.Compare (.Call (.Name "repr" pa) [a'] [] qa) [op] [.Call (.Name "repr" pb) [b'] [] qb] pos) (RdT X.K nm g)) ∧ (isBo (.Compare (.Call (.Name "repr" pa) [a'] [] qa) [op] [.Call (.Name "repr" pb) [b'] [] qb] pos) = true → PW X (.Compare (.Call (.Name "repr" pa) [a'] [] qa) [op] [.Call (.Name "repr" pb) [b'] [] qb] pos) (RdT X.K nm g)) := fun ho hm kk =>
          ⟨(pe_cmpR ho CA CB hm).imp kk, fun _ => (pt_cmpR ho CA CB hm).imp fun σ H Q q => kk _ _ _ q.toE, fun hb => by simp [isBo] at hb⟩
        have eo := eqOp_ok h1
        cases neg with
        | false =>
          have eo : op = .Eq := eo
          subst eo
          exact two op_eq (nomark _) (fun σ H Q q => key rEq σ H Q (fun t H' Q' z => ⟨rfl, by rw [decide_eq_true rfl]; exact z⟩) q)
        | true =>
          have eo : op = .NotEq := eo
          subst eo
          exact two op_ne (nomark _) (fun σ H Q q => key rNe σ H Q (fun t H' Q' z => ⟨rfl, by rw [decide_eq_true rfl]; exact z⟩) q)
  | [], _, h => simp [chk] at h
  | _ :: _ :: _, _, h => simp [chk] at h
  | [_], [], h => simp [chk] at h
  | [_], _ :: _ :: _, h => simp [chk] at h
/-! ### a == [] -/
theorem emp_eqv (d : List PyData) : PyData.eqv (.list d) (.list []) = d.isEmpty := by cases d <;> simp [PyData.eqv, PyData.eqvAll]
mutual
theorem plain_up {m k : Nat} (h : m ≤ k) : ∀ {x : D}, D.plain m x = true → D.plain k x = true
  | .non, _ => by cases k <;> rfl
  | .bl _, _ => by cases k <;> rfl
  | .int _, _ => by cases k <;> rfl
  | .str s, p => by cases m <;> cases k <;> exact p
  | .tup xs, p => by
    cases m with
    | zero => simp [D.plain] at p
    | succ m =>
      cases k with
      | zero => omega
      | succ k => exact plains_up (Nat.le_of_succ_le_succ h) p
  | .lst xs, p => by
    cases m with
    | zero => simp [D.plain] at p
    | succ m =>
      cases k with
      | zero => omega
      | succ k => exact plains_up (Nat.le_of_succ_le_succ h) p
  | .dct _ _, p => by cases m <;> simp [D.plain] at p
  | .ref _, p => by cases m <;> simp [D.plain] at p
  | .scr _, p => by cases m <;> simp [D.plain] at p
theorem plains_up {m k : Nat} (h : m ≤ k) : ∀ {x : List D}, D.plains m x = true → D.plains k x = true
  | [], _ => rfl
  | x :: xs, p => by
    simp only [D.plains, Bool.and_eq_true] at p ⊢
    exact ⟨plain_up h p.1, plains_up h p.2⟩
end
theorem ok_emp {neg : Bool} {a : E} (ha : OkE P G nm ad fdo n a) : OkE P G nm ad fdo n (.emp neg a) := fun {x X T} S h => by
  cases x <;> try (simp only [chk, Bool.false_eq_true] at h; done)
  rename_i x' ops ys pos
  match ops, ys, h with
  | [op], [y], h =>
    cases y <;> try (simp only [chk, Bool.false_eq_true] at h; done)
    rename_i es lp
    cases es with
    | cons _ _ => simp only [chk, Bool.false_eq_true] at h
    | nil =>
    simp only [chk, Bool.and_eq_true] at h
    obtain ⟨h1, h2⟩ := h
    have hu : X.A.units + 64 < cLine := by have := S.hu; omega
    have L : PE X (.List [] lp) (tLst tNil) := pe_lst pa_nil
    have key : ∀ (r : R2) σ H Q, (∀ v d H' Q' p, Dp X.K H' v (.list d) → SeqAt.shaped (.list d) = true → H' p = some (.lst []) → Q' (.bl (if neg then !d.isEmpty else d.isEmpty)) H' → r v (.ref p) H' Q') → RdE X.K nm (ev P (run P n) (.emp neg a)) σ H Q → tOp r (RdE X.K nm (ev P (run P n) a)) (tLst tNil) σ H Q := fun r σ H Q hr q => by
      obtain ⟨vw, hh, δ, d0, h', sr, en, e, k⟩ := q
      simp only [ev] at e
      obtain ⟨⟨pd, ph⟩, e1, e⟩ := Option.bind_eq_some_iff.mp e
      refine ⟨vw, hh, δ, pd, ph, sr, en, e1, fun vw1 H1 v st1 sr1 rv => ⟨by decide, fun p hp => ?_⟩⟩
      cases dd : drf ph pd <;> rw [dd] at e <;> simp only [reduceCtorEq] at e
      rename_i xs
      simp only [Option.ite_none_right_eq_some, Option.some.injEq, Prod.mk.injEq] at e
      obtain ⟨pl, rfl, rfl⟩ := e
      have st := sr1.stF (.lst []) hp
      have pl1 : D.plain 51 (drf ph pd) = true := by rw [dd]; simpa [D.plain] using pl
      have D1 := drf_dp (sr1.newF (o := .lst []) hp) (rv.mono st.le) pl1
      have pl60 : D.plain 60 (drf ph pd) = true := plain_up (by decide) pl1
      have sh := shaped_py pl60
      rw [dd] at D1 sh
      refine hr v (toPys xs) _ _ p D1 sh upd_same ?_
      have em : (toPys xs).isEmpty = xs.isEmpty := by cases xs <;> rfl
      rw [em]
      exact k _ _ _ (st1.trans st) (sr1.newF hp) (.bl _)
    have eo := eqOp_ok h1
    have sh0 : SeqAt.shaped (.list []) = true := by decide
    cases neg with
    | false =>
      have eo : op = .Eq := eo
      subst eo
      have kk := fun σ H Q q => key (rEqD X.K) σ H Q (fun v d H' Q' p hd sh hp z => ⟨_, .list [], hd, .lst (SqL.of hp) .nil, sh, sh0, by rw [emp_eqv]; exact z⟩) q
      exact ⟨(pe_cmpR (op_eqD hu) (ha S h2).1 L (nomark _)).imp kk, fun _ => (pt_cmpR (op_eqD hu) (ha S h2).1 L (nomark _)).imp fun σ H Q q => kk _ _ _ q.toE, fun hb => by simp [isBo] at hb⟩
    | true =>
      have eo : op = .NotEq := eo
      subst eo
      have kk := fun σ H Q q => key (rNeD X.K) σ H Q (fun v d H' Q' p hd sh hp z => ⟨_, .list [], hd, .lst (SqL.of hp) .nil, sh, sh0, by rw [emp_eqv]; exact z⟩) q
      exact ⟨(pe_cmpR (op_neD hu) (ha S h2).1 L (nomark _)).imp kk, fun _ => (pt_cmpR (op_neD hu) (ha S h2).1 L (nomark _)).imp fun σ H Q q => kk _ _ _ q.toE, fun hb => by simp [isBo] at hb⟩
  | [], _, h => simp [chk] at h
  | _ :: _ :: _, _, h => simp [chk] at h
  | [_], [], h => simp [chk] at h
  | [_], _ :: _ :: _, h => simp [chk] at h
end
end VI

/-! VI, part K3: all expressions. -/
namespace VI
open PySem L2 PyProof.Rows
section
variable {P : Pg} {G : Gm} {nm : Nm} {ad : Nat → Addr} {fdo : Nat → FuncData} {n : Nat}
mutual
theorem okE : ∀ e : E, OkE P G nm ad fdo n e
  | .var i => ok_var i
  | .cst d => ok_cst d
  | .glo g => ok_glo g
  | .bin o a b => ok_bin (okE a) (okE b)
  | .cmp o a b => ok_cmp (okE a) (okE b)
  | .chain o o' a b c => ok_chain (okE a) (okE b) (okE c)
  | .neg a => ok_neg (okE a)
  | .andV a b => ok_and (okE a) (okE b)
  | .orV a b => ok_or (okE a) (okE b)
  | .notV a => ok_not (okE a)
  | .ite t a b => ok_ite (okE t) (okE a) (okE b)
  | .tup es => ok_tup (okA es)
  | .lst es => ok_lst (okA es)
  | .mlst es => ok_mlst (okA es)
  | .mdct => ok_mdct
  | .call f es => ok_call (okA es)
  | .meth f o es => ok_meth (okE o) (okA es)
  | .prop f o => ok_prop (okE o)
  | .make f es => ok_make (okA es)
  | .fld c o f => ok_fld (okE o)
  | .bi b es => ok_bi (okA es)
  | .isi a t => ok_isi (okE a)
  | .idx a b => ok_idx (okE a) (okE b)
  | .sl a lo hi => ok_sl (okE a) (okE lo) (okE hi)
  | .slT a lo => ok_slT (okE a) (okE lo)
  | .slH a hi => ok_slH (okE a) (okE hi)
  | .lc tg own it c e => ok_lc (okI it) (okE c) (okE e)
  | .dc tg own it k v => ok_dc (okI it) (okE k) (okE v)
  | .has b f a o => ok_has (okE a) (okE o)
  | .stat f es => ok_stat (okA es)
  | .statK f ks p => ok_statK (okK ks)
  | .makeK f es ks p => ok_makeK (okA es) (okK ks)
  | .dz a b => ok_dz (okE a) (okE b)
  | .app o e => ok_app (okE o) (okE e)
  | .chain3 o1 o2 o3 a b c d => ok_chain3 (okE a) (okE b) (okE c) (okE d)
  | .dsp kvs => ok_dsp (okP kvs)
  | .inR neg x a b => ok_inR (okE x) (okE a) (okE b)
  | .join a b => ok_join (okE a) (okE b)
  | .rev a => ok_rev (okE a)
  | .upd a b => ok_upd (okE a) (okE b)
  | .callG f es => ok_callG (okA es)
  | .methK f o ks p => ok_methK (okE o) (okK ks)
  | .popA o i => ok_popA (okE o) (okE i)
  | .popL o => ok_popL (okE o)
  | .ext o e => ok_ext (okE o) (okE e)
  | .mslH a b => ok_mslH (okE a) (okE b)
  | .dpr e => ok_dpr (okE e)
  | .eqR b x y => ok_eqR (okE x) (okE y)
  | .emp b a => ok_emp (okE a)
theorem okA : ∀ es : EL, OkA P G nm ad fdo n es
  | .nil => ok_nil
  | .cons e es => ok_cons (okE e) (okA es)
theorem okK : ∀ es : EL, OkK P G nm ad fdo n es
  | .nil => ok_knil
  | .cons e es => ok_kcons (okE e) (okK es)
theorem okP : ∀ es : EL, OkP P G nm ad fdo n es
  | .nil => ok_pnil
  | .cons a .nil => ok_pone
  | .cons a (.cons b r) => ok_pcons (okE a) (okE b) (okP r)
theorem okI : ∀ it : It, OkI P G nm ad fdo n it
  | .seq e => ok_seq (okE e)
  | .range1 a => ok_range1 (okE a)
  | .range2 a b => ok_range2 (okE a) (okE b)
  | .enum e => ok_enum (okE e)
  | .zip a b => ok_zip (okE a) (okE b)
  | .down a b => ok_down (okE a) (okE b)
end
end
end VI

/-! VI, part L: statements. -/
namespace VI
open PySem L2 PyProof.Rows
theorem swaps_attr (e o : Expr) (f : Str) (p : Pos) (l : Nat) (env : Env) : swapsWith e (some (.Attribute o f p)) l env = pure false := by cases e <;> rfl
theorem swaps_sub (e o i : Expr) (p : Pos) (l : Nat) (env : Env) : swapsWith e (some (.Subscript o i p)) l env = pure false := by cases e <;> rfl
theorem swaps_tup (e : Expr) (es : List Expr) (k : Nat) (p : Pos) (l : Nat) (env : Env) : swapsWith e (some (.Tuple es k p)) l env = pure false := by cases e <;> rfl
theorem swapped_sub (e o i : Expr) (p : Pos) (env : Env) : swappedStores [.Subscript o i p] e env = pure none := by cases e <;> rfl
theorem swaps_cell {e : Expr} {x : Str} {p : Pos} {l : Nat} {env : Env} (h : env.scope.names.lookup x = some .cell) : swapsWith e (some (.Name x p)) l env = pure false := by
  have hk : env.kindOf x = some .cell := h
  have hb : (env.kindOf x == some NameKind.local) = false := by rw [hk]; rfl
  cases e <;> first
    | rfl
    | (unfold swapsWith; simp only [hb, Bool.and_false, Bool.false_and])
def twoOk (T : Tx) (i j : Nat) (x y : Str) (px py : Pos) (a b : Expr) : Bool :=
  decide (T.N[i]? = some x) && decide (T.N[j]? = some y) && decide (i ≠ j) && !sEq x y && lcl T.sc x && lcl T.sc y && nst a && nst b && (py.line == px.line) && !([a, b].all (foldedForSure 8)) && !([a, b].all (constantsAlone 8)) && (match T.sc.kind with | .function => true | _ => false)
theorem star_no {a : Expr} (h : nst a = true) : (match (generalizing := false) a with | .Starred .. => true | _ => false) = false := by
  cases a <;> first | rfl | (simp [nst] at h)
theorem swapped_two {x y : Str} {px py pt pt2 : Pos} {a b : Expr} {kt k2 : Nat} {env : Env} (hk : env.scope.kind = .function) (hx : env.scope.names.lookup x = some .local) (hy : env.scope.names.lookup y = some .local) (hxy : x ≠ y) (ha : nst a = true) (hb : nst b = true)
    (hl : (py.line == px.line) = true) (h1 : [a, b].all (foldedForSure 8) = false) (h2 : [a, b].all (constantsAlone 8) = false) :
    swappedStores [.Tuple [.Name x px, .Name y py] kt pt] (.Tuple [a, b] k2 pt2) env = pure (some [x, y]) := by
  have kx : env.kindOf x = some .local := hx
  have ky : env.kindOf y = some .local := hy
  have bk : env.blockKind = .function := by unfold Env.blockKind; rw [hk]; rfl
  have sa := star_no ha
  have sb := star_no hb
  have hl' : py.line = px.line := by simpa using hl
  have hyx : (y == x) = false := by simpa using Ne.symm hxy
  unfold swappedStores
  simp only [h1, h2, bk]
  simp [sa, sb, kx, ky, hl', Expr.pos, List.eraseDups_cons, List.filterMap_cons, hyx]
  intro h
  exfalso
  clear sa sb h1 h2
  rcases h with h | h
  · revert ha h; cases a <;> simp [nst]
  · revert hb h; cases b <;> simp [nst]
def isSubE (sc : Scope) : Expr → Bool
  | .Subscript .. => true
  | .Name x _ => cll sc x
  | _ => false
def chkTX (P : Pg) (G : Gm) (T : Tx) : List TX → List Expr → Bool
  | [], [] => true
  | .nm i :: ts, .Name x _ :: es => slotOk T i x && chkTX P G T ts es
  | .sub o k :: ts, .Subscript o' k' _ :: es => nsl k' && chk P G T o o' && chk P G T k k' && chkTX P G T ts es
  | _, _ => false
theorem swapped_notall {sc : Scope} {tgs vs : List Expr} {k k2 : Nat} {p p2 : Pos} (h : tgs.any (isSubE sc) = true) (env : Env) (hsc : env.scope = sc) : swappedStores [.Tuple tgs k p] (.Tuple vs k2 p2) env = pure none := by
  unfold swappedStores
  simp only
  split
  · rfl
  · split
    · rfl
    · have : ∀ (f : Expr → Option Str) (l : List Expr), (∀ e, isSubE sc e = true → f e = none) → l.any (isSubE sc) = true → (l.filterMap f).length < l.length := fun f l hf => by
        induction l with
        | nil => intro q; simp at q
        | cons e l ih =>
          intro q
          rw [List.filterMap_cons]
          by_cases he : isSubE sc e = true
          · rw [hf e he]
            have := List.length_filterMap_le f l
            simp only [List.length_cons]; omega
          · have hl : l.any (isSubE sc) = true := by
              rw [List.any_cons] at q
              simpa [he] using q
            have := ih hl
            cases f e with
            | none => simp only [List.length_cons]; omega
            | some y => simp only [List.length_cons]; omega
      split
      · rfl
      · rename_i hne
        exfalso
        apply hne
        rw [Bool.or_eq_true]
        left
        rw [bne_iff_ne]
        refine Nat.ne_of_lt (this _ _ ?_ h)
        intro e he
        cases e <;> first
          | rfl
          | (simp [isSubE] at he; done)
          | (rename_i x px
             have hx : cll sc x = true := he
             have hk : env.kindOf x = some .cell := by
               show env.scope.names.lookup x = some .cell
               rw [hsc]; exact cll_ok hx
             simp only [hk]
             rfl)
mutual
def chkS (P : Pg) (G : Gm) (T : Tx) : S → Stmt → Bool
  | .asg tg e, .Assign [t] v pos => chkG T tg t && chk P G T e v && nst t && (match t, v with
    | .Name x p, .ListComp e' gens scope cpos => (lcl T.sc x && (p.line == cpos.line) && !(scope.names.any fun (n, k) => n == x && (k == .local || k == .cell)) && (match T.sc.kind with | .function => true | _ => false)) || cll T.sc x
    | .Name x p, v => ncomp v
    | .Tuple _ _ _, v => ntup v
    | _, _ => false)
  | .asgF c o f e, .Assign [.Attribute o' m _] v _ => decide ((c, f) ∈ G.fields) && sEq m (G.fn f) && chk P G T o o' && chk P G T e v
  | .asgI o i e, .Assign [.Subscript o' i' _] v _ => nsl i' && chk P G T o o' && chk P G T i i' && chk P G T e v
  | .par i j a b, .Assign [.Tuple [.Name x px, .Name y py] _ _] (.Tuple [a', b'] _ _) _ => twoOk T i j x y px py a' b' && chk P G T a a' && chk P G T b b'
  | .asgT ts es, .Assign [.Tuple tgs _ _] (.Tuple vs _ _) _ => chkTX P G T ts tgs && tgs.all nst && tgs.any (isSubE T.sc) && vs.all nst && decide (vs.length ≤ 1000) && chks P G T es vs
  | .aug i o e, .AugAssign (.Name x _) op v _ => slotOk T i x && opOk o op && decide (o = .add ∨ o = .sub ∨ o = .mul) && chk P G T e v
  | .augF c o f op e, .AugAssign (.Attribute o' m _) op' v _ => decide ((c, f) ∈ G.fields) && sEq m (G.fn f) && opOk op op' && decide (op = .add ∨ op = .sub ∨ op = .mul) && chk P G T o o' && chk P G T e v
  | .expr e, .Expr v _ => ncomp v && chk P G T e v
  | .ret e, .Return (some v) _ => chk P G T e v
  | .retN, .Return none _ => true
  | .ite t a b, .If t' a' b' _ => nif t' && chk P G T t t' && chkL P G T a a' && chkL P G T b b'
  | .for tg it b, .For tg' it' b' [] _ => chkG T tg tg' && chkI P G T it tg' it' && nset it' && chkL P G T b b'
  | .while t b, .While t' b' [] _ => nif t' && chk P G T t t' && chkL P G T b b'
  | .pass, .Pass _ => true
  | .brk, .Break _ => true
  | .cont, .Continue _ => true
  | .never, .Raise _ _ _ => true
  | _, _ => false
def chkL (P : Pg) (G : Gm) (T : Tx) : SL → List Stmt → Bool
  | .nil, [] => true
  | .cons s ss, s' :: ss' => chkS P G T s s' && chkL P G T ss ss'
  | _, _ => false
end
def OkS (P : Pg) (G : Gm) (nm : Nm) (ad : Nat → Addr) (fdo : Nat → FuncData) (n : Nat) (s : S) : Prop := ∀ {x : Stmt} {X : Cx} {T : Tx}, Sit P G nm ad fdo n X T → chkS P G T s x = true → PS X x (RdS X.K nm (ex P (run P n) s))
def OkL (P : Pg) (G : Gm) (nm : Nm) (ad : Nat → Addr) (fdo : Nat → FuncData) (n : Nat) (s : SL) : Prop := ∀ {x : List Stmt} {X : Cx} {T : Tx}, Sit P G nm ad fdo n X T → chkL P G T s x = true → PSs X x (RdS X.K nm (exs P (run P n) s))
section
variable {P : Pg} {G : Gm} {nm : Nm} {ad : Nat → Addr} {fdo : Nat → FuncData} {n : Nat}
theorem os_pass : OkS P G nm ad fdo n .pass := fun {x X T} S h => by
  cases x <;> try (simp only [chkS, Bool.false_eq_true] at h; done)
  refine ps_pass.imp ?_
  rintro D σ H ⟨vw, hh, δ, o, sr, en, e, k⟩
  simp only [ex, Option.some.injEq] at e
  subst e
  exact k vw H Stp.rfl σ sr en
theorem os_brk : OkS P G nm ad fdo n .brk := fun {x X T} S h => by
  cases x <;> try (simp only [chkS, Bool.false_eq_true] at h; done)
  refine ps_break.imp ?_
  rintro D σ H ⟨vw, hh, δ, o, sr, en, e, k⟩
  simp only [ex, Option.some.injEq] at e
  subst e
  exact k vw H Stp.rfl σ sr en
theorem os_cont : OkS P G nm ad fdo n .cont := fun {x X T} S h => by
  cases x <;> try (simp only [chkS, Bool.false_eq_true] at h; done)
  refine ps_continue.imp ?_
  rintro D σ H ⟨vw, hh, δ, o, sr, en, e, k⟩
  simp only [ex, Option.some.injEq] at e
  subst e
  exact k vw H Stp.rfl σ sr en
theorem os_never : OkS P G nm ad fdo n .never := fun {x X T} S h => by
  cases x <;> try (simp only [chkS, Bool.false_eq_true] at h; done)
  refine ps_never.imp ?_
  rintro D σ H ⟨vw, hh, δ, o, sr, en, e, k⟩
  simp [ex] at e
theorem os_retN : OkS P G nm ad fdo n .retN := fun {x X T} S h => by
  cases x <;> try (simp only [chkS, Bool.false_eq_true] at h; done)
  rename_i v pos
  cases v with
  | some v => simp [chkS] at h
  | none =>
    refine ps_retN.imp ?_
    rintro D σ H ⟨vw, hh, δ, o, sr, en, e, k⟩
    simp only [ex, Option.some.injEq] at e
    subst e
    exact k vw H Stp.rfl .non sr .non
theorem os_ret {e : E} : OkS P G nm ad fdo n (.ret e) := fun {x X T} S h => by
  cases x <;> try (simp only [chkS, Bool.false_eq_true] at h; done)
  rename_i v pos
  cases v with
  | none => simp [chkS] at h
  | some v =>
    simp only [chkS] at h
    refine (ps_ret (okE e S h).1).imp ?_
    rintro D σ H ⟨vw, hh, δ, o, sr, en, e, k⟩
    simp only [ex] at e
    obtain ⟨⟨d, dh⟩, e1, e2⟩ := Option.map_eq_some_iff.mp e
    subst e2
    exact ⟨vw, hh, δ, d, dh, sr, en, e1, fun vw1 H1 v st1 sr1 rv => k vw1 H1 st1 v sr1 rv⟩
theorem os_expr {e : E} : OkS P G nm ad fdo n (.expr e) := fun {x X T} S h => by
  cases x <;> try (simp only [chkS, Bool.false_eq_true] at h; done)
  simp only [chkS, Bool.and_eq_true] at h
  refine (ps_expr (okE e S h.2).1 (swaps_plain h.1 _ _ _)).imp ?_
  rintro D σ H ⟨vw, hh, δ, o, sr, en, e, k⟩
  simp only [ex] at e
  obtain ⟨⟨d, dh⟩, e1, e2⟩ := Option.map_eq_some_iff.mp e
  subst e2
  exact ⟨vw, hh, δ, d, dh, sr, en, e1, fun vw1 H1 v st1 sr1 rv => k vw1 H1 st1 σ sr1 (en.mono st1.le)⟩
theorem rd_asg {K : PySem.W.Frag} {tg : Tg} {e : E} {E : Ends} {σ : L2.St} {H : Hp} (h : RdS K nm (ex P (run P n) (.asg tg e)) E σ H) : tAsg (RdE K nm (ev P (run P n) e)) (gOf K tg) E σ H := by
  obtain ⟨vw, hh, δ, o, sr, en, ee, k⟩ := h
  simp only [ex] at ee
  obtain ⟨⟨d, dh⟩, e1, ee⟩ := Option.bind_eq_some_iff.mp ee
  obtain ⟨δ1, e2, e3⟩ := Option.map_eq_some_iff.mp ee
  subst e3
  refine ⟨vw, hh, δ, d, dh, sr, en, e1, fun vw1 H1 v st1 sr1 rv => ?_⟩
  exact put_ok sr1 rv (en.mono st1.le) e2 fun σ' en' _ => k vw1 H1 st1 σ' sr1 en'
theorem kind_fn {T : Tx} (h : (match T.sc.kind with | .function => true | _ => false) = true) : T.sc.kind = .function := by
  split at h <;> first | assumption | cases h
theorem os_asg {tg : Tg} {e : E} : OkS P G nm ad fdo n (.asg tg e) := fun {x X T} S h => by
  cases x <;> try (simp only [chkS, Bool.false_eq_true] at h; done)
  rename_i ts v pos
  match ts, h with
  | [t], h =>
    simp only [chkS, Bool.and_eq_true] at h
    obtain ⟨⟨⟨h1, h2⟩, h3⟩, h4⟩ := h
    have E := (okE e S h2).1
    have Gt := chkG_ok S h1
    cases t <;> try (simp only [Bool.false_eq_true] at h4; done)
    · rename_i x p
      have plain : ncomp v = true → PS X (.Assign [.Name x p] v pos) (RdS X.K nm (ex P (run P n) (.asg tg e))) := fun hn =>
        (ps_asg E Gt (by rw [sole_eq]; exact swaps_plain hn _ _ _) (swapped_name _ _ _) (each_one h3 _)).imp fun D σ H q => rd_asg q
      cases v with
      | ListComp e' gens scope cpos =>
        simp only [Bool.or_eq_true, Bool.and_eq_true, Bool.not_eq_true'] at h4
        rcases h4 with ⟨⟨⟨h5, h6⟩, h7⟩, h8⟩ | h5
        · -- stored within the comprehension
          cases e <;> try (simp only [chk, Bool.false_eq_true] at h2; done)
          rename_i ctg own it c ee
          match gens, h2 with
          | [⟨tg', it', ifs, ia⟩], h2 =>
            simp only [chk, Bool.and_eq_true, decide_eq_true_eq] at h2
            obtain ⟨⟨⟨⟨⟨⟨⟨⟨a1, a2⟩, a3⟩, a4⟩, a5⟩, a6⟩, a7⟩, a8⟩, a9⟩ := h2
            subst a1
            cases tg with
            | tp is => simp [chkG] at h1
            | nm i =>
              simp only [chkG, slotOk, Bool.and_eq_true, decide_eq_true_eq] at h1
              have hT : ∀ (s : Shared) (H : Hp) (C : Addr) (cl : List (Str × Addr)) (fp : List Addr), PTs (X.blk s H scope (compEnvC scope cl C X.env) fp) ifs (RdT X.K nm (ev P (run P n) c)) := fun s H C cl fp => by
                match ifs, a8 with
                | [], a8 =>
                  have hc0 : c = .cst (.bl true) := isC0_ok a8
                  subst hc0
                  refine pts_of pts_nil ?_
                  rintro σ H Q ⟨vw, hh, δ, b, h', sr, en, e, k⟩
                  simp only [ev, Option.some.injEq, Prod.mk.injEq, D.bl.injEq] at e
                  obtain ⟨rfl, rfl⟩ := e
                  exact k vw H Stp.rfl sr
                | [c'], a8 =>
                  simp only [Bool.and_eq_true] at a8
                  exact pts_one ((okE c (S.blk s H C cl fp scope) a8.2).2.1 a8.1)
                | _ :: _ :: _, a8 => cases a8
              have hloc : X.env.scope.names.lookup x = some .local := by rw [S.sc]; exact lcl_ok h5
              have base := ps_setLc (i := i) (py := p) (pos := cpos) (spos := pos) (elt := e') (g := gOf X.K ctg) (tt := RdT X.K nm (ev P (run P n) c)) (te := RdE X.K nm (ev P (run P n) ee)) S.calm (by rw [S.N]; exact S.nd) (by rw [S.N]; exact h1.1) hloc (sw_true (by rw [S.sc]; exact kind_fn h8) hloc h6 h7) (okI it (tg := tg') S a7) (by rw [S.N, S.sc]; exact blkOk_by a3) (fun s H C cl fp => chkG_ok (S.blk s H C cl fp scope) a6) hT (fun s H C cl fp => (okE ee (S.blk s H C cl fp scope) a9).1) (fold_plain a2 _)
              rw [a4] at base
              refine base.imp fun D σ H q => ?_
              have q := rd_asg q
              exact lc_reads a5 q
          | [], h2 => simp [chk] at h2
          | _ :: _ :: _, h2 => simp [chk] at h2
        · exact (ps_asg E Gt (by rw [sole_eq]; exact swaps_cell (by rw [S.sc]; exact cll_ok h5)) (swapped_name _ _ _) (each_one h3 _)).imp fun D σ H q => rd_asg q
      | _ => exact plain h4
    · exact (ps_asg E Gt (by rw [sole_eq]; exact swaps_tup _ _ _ _ _ _) (swapped_plain (by simpa using h4) _) (each_one h3 _)).imp fun D σ H q => rd_asg q
  | [], h => simp [chkS] at h
  | _ :: _ :: _, h => simp [chkS] at h
/-! ### fields, items -/
theorem putF_at {K : PySem.W.Frag} {vw : Vw} {f : Nat} {v : V} {d : D} (rv : Rep K vw v d) : ∀ {fs : List (Nat × D)} {gs : List (Str × V)}, gs.map (·.1) = fs.map (fun p => nm.fn p.1) → Reps K vw (gs.map (·.2)) (fs.map (·.2)) →
    (putF (nm.fn f) v gs).map (·.1) = (fput fs f d).map (fun p => nm.fn p.1) ∧ Reps K vw ((putF (nm.fn f) v gs).map (·.2)) ((fput fs f d).map (·.2))
  | [], [], _, _ => ⟨rfl, .cons rv .nil⟩
  | (g, e0) :: fs, (y, v0) :: gs, e1, r => by
    simp only [List.map_cons, List.cons.injEq] at e1
    cases r with
    | cons r rs =>
      obtain ⟨ih1, ih2⟩ := putF_at rv (f := f) e1.2 rs
      by_cases h : g = f
      · subst h
        have h1 : y = nm.fn g := e1.1
        have ee : putF (nm.fn g) v ((y, v0) :: gs) = (nm.fn g, v) :: gs := by
          unfold putF
          simp [h1]
        rw [ee]
        simp only [fput, if_true, List.map_cons]
        exact ⟨by rw [e1.2], .cons rv rs⟩
      · have h1 : ¬ y = nm.fn f := fun q => h (nm.inj _ _ (e1.1.symm.trans q))
        have ee : putF (nm.fn f) v ((y, v0) :: gs) = (y, v0) :: putF (nm.fn f) v gs := by
          conv => lhs; unfold putF
          simp [h1]
        rw [ee]
        simp only [fput, h, if_false, List.map_cons]
        exact ⟨by rw [ih1, e1.1], .cons r ih2⟩
  | [], _ :: _, e1, _ => by simp at e1
  | _ :: _, [], e1, _ => by simp at e1
theorem n900 {n : Nat} (h : n < 900) : n < 1000 := by omega
theorem os_asgF {c f : Nat} {o e : E} : OkS P G nm ad fdo n (.asgF c o f e) := fun {x X T} S h => by
  cases x <;> try (simp only [chkS, Bool.false_eq_true] at h; done)
  rename_i ts v pos
  match ts, h with
  | [.Attribute o' m p], h =>
    simp only [chkS, Bool.and_eq_true, decide_eq_true_eq] at h
    obtain ⟨⟨⟨h1, h2⟩, h3⟩, h4⟩ := h
    have e0 := sEq_ok h2
    subst e0
    obtain ⟨c1, c2⟩ := S.fac.fld c f h1
    rw [S.fac.fnm] at c2
    refine (ps_fld (okE o S h3).1 (okE e S h4).1 (swaps_attr _ _ _ _ _ _)).imp ?_
    rintro D σ H ⟨vw, hh, δ, o, sr, en, e, k⟩
    simp only [ex] at e
    obtain ⟨⟨vd, vh⟩, e1, e⟩ := Option.bind_eq_some_iff.mp e
    obtain ⟨⟨od, oh⟩, e2, e⟩ := Option.bind_eq_some_iff.mp e
    obtain ⟨⟨l, c', fs⟩, e3, e⟩ := Option.bind_eq_some_iff.mp e
    simp only [Option.ite_none_right_eq_some, Option.some.injEq] at e
    obtain ⟨⟨hc, hn⟩, e4⟩ := e
    subst hc e4
    refine ⟨vw, hh, δ, vd, vh, sr, en, e1, fun vw1 H1 y st1 sr1 ry => ?_⟩
    refine ⟨vw1, vh, δ, od, oh, sr1, en.mono st1.le, e2, fun vw2 H2 w st2 sr2 rw' => ?_⟩
    obtain ⟨a, dx, gs, ea, ed, hl, hcell, hH, hnn, hrs⟩ := ins_of sr2 rw' e3
    have hlen : gs.length = fs.length := by
      have := congrArg List.length hnn
      simpa using this
    refine ⟨a, _, dx, gs, ea, hH, c1, c2, n900 (by rw [hlen]; exact hn), ?_⟩
    rw [← S.fac.fnm]
    have stw := sr2.stW (.ins (nm.ca c') dx (putF (nm.fn f) y gs)) hl
    obtain ⟨q1, q2⟩ := putF_at (f := f) (ry.mono st2.le) hnn hrs
    exact k vw2 _ (st1.trans (st2.trans stw)) σ (sr2.write hl ⟨dx, _, upd_same, q1, q2⟩) ((en.mono st1.le).mono st2.le)
  | [], h => simp [chkS] at h
  | t :: _ :: _, h => cases t <;> simp [chkS] at h
def PSet.by {X : Cx} {t : TSet} (h : ∀ o i v H Q, t o i v H Q → ∃ r, PSet X r ∧ r o i v H Q) : PSet X t := by
  intro pins s σ H o i v ov iv u Q I ro ri rv q
  obtain ⟨r, hr, q⟩ := h o i v H Q q
  exact hr pins s σ H o i v ov iv u Q I ro ri rv q
theorem set_dict {X : Cx} (hu : X.A.units + 64 < cLine) : PSet X (fun o i v H Q => ∃ a kvs k, o = .ref a ∧ i = kV k ∧ H a = some (.dK kvs) ∧ kvs.length < sizeLine ∧ Q (upd H a (.dK (putK kvs k v)))) := by
  intro pins s σ H o i v ov iv u Q I ro ri rv ⟨a, kvs, k, e1, e2, e3, e4, q⟩
  subst e1 e2
  cases (show ov = Value.ref a from ro)
  exact d_setItem (by omega) I (DPut.k e3 e4) ri rv fun s' I' => ⟨_, I', q⟩
def RdP (K : PySem.W.Frag) (nm : Nm) : TSet := fun o i v H Q => ∃ vw h od id vd h', SR K nm vw H h ∧ Rep K vw o od ∧ Rep K vw i id ∧ Rep K vw v vd ∧ setF h od id vd = some h' ∧ ∀ vw' H', Stp vw H vw' H' → SR K nm vw' H' h' → Q H'
theorem sets {X : Cx} (hu : X.A.units + 64 < cLine) : PSet X (RdP X.K nm) := PSet.by fun o i v H Q ⟨vw, h, od, id, vd, h', sr, ro, ri, rv, e, k⟩ => by
  cases ro with
  | @ref a l hl =>
    simp only [setF] at e
    cases hc : h[l]? with
    | none => rw [hc] at e; cases e
    | some ob =>
      rw [hc] at e
      cases ob with
      | lst xs =>
        cases ri with
        | int j =>
          simp only [Option.ite_none_right_eq_some, Option.some.injEq] at e
          obtain ⟨⟨h0, h1⟩, e⟩ := e
          subst e
          obtain ⟨vs, hH, hr⟩ := sr.ob _ _ _ hc hl
          refine ⟨_, set_list, a, vs, j, j.toNat, rfl, rfl, hH, ?_, ?_⟩
          · unfold ixN
            rw [if_pos h0, if_pos (by rw [hr.length]; omega)]
          · exact k vw _ (sr.stW _ hl) (sr.write hl ⟨_, upd_same, hr.set rv⟩)
        | _ => cases e
      | dct ks vs =>
        simp only [Option.ite_none_right_eq_some, Option.some.injEq, Bool.and_eq_true, decide_eq_true_eq] at e
        obtain ⟨⟨⟨h0, h1⟩, h2⟩, e⟩ := e
        subst e
        obtain ⟨kvs, hH, hk, hr⟩ := sr.ob _ _ _ hc hl
        obtain ⟨kk, k1, k2⟩ := key_of' ri h0
        subst hk
        obtain ⟨q1, q2⟩ := put_reps kk rv hr
        refine ⟨_, set_dict hu, a, kvs, kk, rfl, k1, hH, lim_lt (by simpa using h2), ?_⟩
        subst k2
        exact k vw _ (sr.stW _ hl) (sr.write hl ⟨_, upd_same, q1.symm, q2⟩)
      | ins c fs => cases e
  | _ => cases e
theorem assign_sub {i : Expr} (h : nsl i = true) (o : Expr) (pos : Pos) (env : Env) : ∀ v, assign (.Subscript o i pos) env v = (do
      let ov ← holding [v] (eval o env)
      let iv ← holding [v, ov] (eval i env)
      standAt pos
      holding [v, ov, iv] (setItem ov iv v)
      release [v, ov, iv] []) := fun v => by
  cases i <;> first | rfl | (simp [nsl] at h)
theorem os_asgI {o i e : E} : OkS P G nm ad fdo n (.asgI o i e) := fun {x X T} S h => by
  cases x <;> try (simp only [chkS, Bool.false_eq_true] at h; done)
  rename_i ts v pos
  match ts, h with
  | [.Subscript o' i' p], h =>
    simp only [chkS, Bool.and_eq_true] at h
    obtain ⟨⟨⟨h0, h1⟩, h2⟩, h3⟩ := h
    refine (ps_asg (okE e S h3).1 (pg_sub (okE o S h1).1 (okE i S h2).1 (sets (nm := nm) (by have := S.hu; omega)) (assign_sub h0 _ _ _)) (by rw [sole_eq]; exact swaps_sub _ _ _ _ _ _) (swapped_sub _ _ _ _ _) (each_one rfl _)).imp ?_
    rintro D σ H ⟨vw, hh, δ, o, sr, en, e, k⟩
    simp only [ex] at e
    obtain ⟨⟨vd, vh⟩, e1, e⟩ := Option.bind_eq_some_iff.mp e
    obtain ⟨⟨od, oh⟩, e2, e⟩ := Option.bind_eq_some_iff.mp e
    obtain ⟨⟨id, ih⟩, e3, e⟩ := Option.bind_eq_some_iff.mp e
    refine ⟨vw, hh, δ, vd, vh, sr, en, e1, fun vw1 H1 y st1 sr1 ry => ?_⟩
    refine ⟨vw1, vh, δ, od, oh, sr1, en.mono st1.le, e2, fun vw2 H2 w st2 sr2 rw' => ?_⟩
    refine ⟨vw2, oh, δ, id, ih, sr2, (en.mono st1.le).mono st2.le, e3, fun vw3 H3 z st3 sr3 rz => ?_⟩
    have key : ∃ h', setF ih od id vd = some h' ∧ o = .nx δ h' := by
      cases od with
      | ref l =>
        simp only [setF]
        dsimp only at e
        cases hc : ih[l]? with
        | none => rw [hc] at e; cases e
        | some ob =>
          rw [hc] at e
          cases ob with
          | lst xs =>
            cases id with
            | int j =>
              simp only [Option.ite_none_right_eq_some, Option.some.injEq] at e ⊢
              exact ⟨_, ⟨e.1, rfl⟩, e.2.symm⟩
            | _ => cases e
          | dct ks vs =>
            simp only [Option.ite_none_right_eq_some, Option.some.injEq] at e ⊢
            exact ⟨_, ⟨e.1, rfl⟩, e.2.symm⟩
          | ins c fs => cases e
      | _ => cases e
    obtain ⟨h', k1, k2⟩ := key
    subst k2
    exact ⟨vw3, ih, od, id, vd, h', sr3, rw'.mono st3.le, rz, (ry.mono st2.le).mono st3.le, k1, fun vw4 H4 st4 sr4 => k vw4 H4 (st1.trans (st2.trans (st3.trans st4))) σ sr4 ((((en.mono st1.le).mono st2.le).mono st3.le).mono st4.le)⟩
  | [], h => simp [chkS] at h
  | t :: _ :: _, h => cases t <;> simp [chkS] at h
end
end VI

/-! VI, part M: further statements, blocks, defs. -/
namespace VI
open PySem L2 PyProof.Rows
section
variable {P : Pg} {G : Gm} {nm : Nm} {ad : Nat → Addr} {fdo : Nat → FuncData} {n : Nat}
theorem os_par {i j : Nat} {a b : E} : OkS P G nm ad fdo n (.par i j a b) := fun {x X T} S h => by
  cases x <;> try (simp only [chkS, Bool.false_eq_true] at h; done)
  rename_i ts v pos
  have key : ∃ x px y py kt pt a' b' k2 pt2, ts = [.Tuple [.Name x px, .Name y py] kt pt] ∧ v = .Tuple [a', b'] k2 pt2 ∧ (twoOk T i j x y px py a' b' && chk P G T a a' && chk P G T b b') = true := by
    unfold chkS at h
    split at h
    all_goals first
      | (cases h; done)
      | (rename_i h1 h2; cases h1; cases h2; exact ⟨_, _, _, _, _, _, _, _, _, _, rfl, rfl, h⟩)
      | (rename_i h1 h2; cases h1; done)
      | (rename_i h1 h2; cases h2; done)
  obtain ⟨x, px, y, py, kt, pt, a', b', k2, pt2, rfl, rfl, hk⟩ := key
  simp only [Bool.and_eq_true] at hk
  obtain ⟨⟨h1, h2⟩, h3⟩ := hk
  unfold twoOk at h1
  simp only [Bool.and_eq_true, decide_eq_true_eq, Bool.not_eq_true'] at h1
  obtain ⟨⟨⟨⟨⟨⟨⟨⟨⟨⟨⟨t1, t2⟩, t3⟩, t4⟩, t5⟩, t6⟩, t7⟩, t8⟩, t9⟩, t10⟩, t11⟩, t12⟩ := h1
  have lx : X.env.scope.names.lookup x = some .local := by rw [S.sc]; exact lcl_ok t5
  have ly : X.env.scope.names.lookup y = some .local := by rw [S.sc]; exact lcl_ok t6
  have A : PA X [a', b'] (tCons (RdE X.K nm (ev P (run P n) a)) (tCons (RdE X.K nm (ev P (run P n) b)) tNil)) := pa_cons (okE a S h2).1 (pa_cons (okE b S h3).1 pa_nil (star_cons t8 _ _)) (star_cons t7 _ _)
  have hxy : x ≠ y := fun q => by subst q; simp [sEq] at t4
  refine (ps_par S.calm (by rw [S.N]; exact S.nd) (by rw [S.N]; exact t1) (by rw [S.N]; exact t2) t3 lx ly A (swapped_two (by rw [S.sc]; exact kind_fn t12) lx ly hxy t7 t8 t9 t10 t11) rfl).imp ?_
  rintro D σ H ⟨vw, hh, δ, o, sr, en, e, k⟩
  simp only [ex] at e
  obtain ⟨⟨d1, h1⟩, e1, e⟩ := Option.bind_eq_some_iff.mp e
  obtain ⟨⟨d2, h2⟩, e2, e3⟩ := Option.map_eq_some_iff.mp e
  subst e3
  refine ⟨vw, hh, δ, d1, h1, sr, en, e1, fun vw1 H1 v st1 sr1 rv => ?_⟩
  refine ⟨vw1, h1, δ, d2, h2, sr1, en.mono st1.le, e2, fun vw2 H2 w st2 sr2 rw' => ?_⟩
  exact ⟨v, w, rfl, k vw2 H2 (st1.trans st2) _ sr2 ((((en.mono st1.le).mono st2.le).set (rv.mono st2.le)).set rw')⟩
/-! ### a, o[k] = x, y -/
def gsX (K : PySem.W.Frag) (nm : Nm) (P : Pg) (n : Nat) : List TX → TGs
  | [] => gNil
  | .nm i :: ts => gCons (gName i) (gsX K nm P n ts)
  | .sub o k :: ts => gCons (gSub (RdE K nm (ev P (run P n) o)) (RdE K nm (ev P (run P n) k)) (RdP K nm)) (gsX K nm P n ts)
theorem pgs_X {X : Cx} {T : Tx} (S : Sit P G nm ad fdo n X T) : ∀ {ts : List TX} {es : List Expr}, chkTX P G T ts es = true → PGs X es (gsX X.K nm P n ts) ∧ es.length = ts.length
  | [], [], _ => ⟨pgs_nil, rfl⟩
  | .nm i :: ts, .Name x p :: es, h => by
    simp only [chkTX, Bool.and_eq_true] at h
    obtain ⟨a, b⟩ := pgs_X S h.2
    exact ⟨pgs_cons (pg_slot S h.1) a rfl, by simp [b]⟩
  | .sub o k :: ts, .Subscript o' k' p :: es, h => by
    simp only [chkTX, Bool.and_eq_true] at h
    obtain ⟨⟨⟨h1, h2⟩, h3⟩, h4⟩ := h
    obtain ⟨a, b⟩ := pgs_X S h4
    exact ⟨pgs_cons (pg_sub (okE o S h2).1 (okE k S h3).1 (sets (nm := nm) (by have := S.hu; omega)) (assign_sub h1 _ _ _)) a rfl, by simp [b]⟩
  | [], _ :: _, h => by simp [chkTX] at h
  | .nm i :: _, [], h => by simp [chkTX] at h
  | .sub _ _ :: _, [], h => by simp [chkTX] at h
  | .nm i :: ts, e :: es, h => by
    cases e with
    | Name x p =>
      simp only [chkTX, Bool.and_eq_true] at h
      obtain ⟨a, b⟩ := pgs_X S h.2
      exact ⟨pgs_cons (pg_slot S h.1) a rfl, by simp [b]⟩
    | _ => simp [chkTX] at h
  | .sub o k :: ts, e :: es, h => by
    cases e with
    | Subscript o' k' p =>
      simp only [chkTX, Bool.and_eq_true] at h
      obtain ⟨⟨⟨h1, h2⟩, h3⟩, h4⟩ := h
      obtain ⟨a, b⟩ := pgs_X S h4
      exact ⟨pgs_cons (pg_sub (okE o S h2).1 (okE k S h3).1 (sets (nm := nm) (by have := S.hu; omega)) (assign_sub h1 _ _ _)) a rfl, by simp [b]⟩
    | _ => simp [chkTX] at h
theorem putsX_ok {K : PySem.W.Frag} : ∀ {ts : List TX} {ds : List D} {vs : List V} {vw : Vw} {H : Hp} {h : Hh} {σ : L2.St} {δ : Ev} {r : Ev × Hh} {Q : L2.St → Hp → Prop}, SR K nm vw H h → Reps K vw vs ds → EnvR K vw σ δ → putsX P (run P n) ts ds δ h = some r →
    (∀ vw' H' σ', Stp vw H vw' H' → SR K nm vw' H' r.2 → EnvR K vw' σ' r.1 → Q σ' H') → gsX K nm P n ts vs σ H Q
  | [], [], _, vw, H, h, σ, δ, r, Q, sr, .nil, en, e, k => by
    have e := Option.some.inj e
    subst e
    exact ⟨rfl, k vw H σ Stp.rfl sr en⟩
  | .nm i :: ts, d :: ds, _, vw, H, h, σ, δ, r, Q, sr, .cons rv rs, en, e, k => by
    exact ⟨_, _, rfl, putsX_ok (ts := ts) sr rs (en.set rv) e k⟩
  | .sub o kx :: ts, d :: ds, _, vw, H, h, σ, δ, r, Q, sr, .cons rv rs, en, e, k => by
    simp only [putsX] at e
    obtain ⟨⟨od, oh⟩, e1, e⟩ := Option.bind_eq_some_iff.mp e
    obtain ⟨⟨kd, kh⟩, e2, e⟩ := Option.bind_eq_some_iff.mp e
    obtain ⟨h2, e3, e⟩ := Option.bind_eq_some_iff.mp e
    refine ⟨_, _, rfl, ?_⟩
    refine ⟨vw, h, δ, od, oh, sr, en, e1, fun vw1 H1 w st1 sr1 rw' => ?_⟩
    refine ⟨vw1, oh, δ, kd, kh, sr1, en.mono st1.le, e2, fun vw2 H2 z st2 sr2 rz => ?_⟩
    refine ⟨vw2, kh, od, kd, d, h2, sr2, rw'.mono st2.le, rz, (rv.mono st1.le).mono st2.le, e3, fun vw3 H3 st3 sr3 => ?_⟩
    exact putsX_ok (ts := ts) sr3 (((rs.mono st1.le).mono st2.le).mono st3.le) (((en.mono st1.le).mono st2.le).mono st3.le) e fun vw' H' σ' st' sr' en' => k vw' H' σ' (st1.trans (st2.trans (st3.trans st'))) sr' en'
  | [], _ :: _, _, _, _, _, _, _, _, _, _, _, _, e, _ => by cases e
  | .nm _ :: _, [], _, _, _, _, _, _, _, _, _, _, _, e, _ => by cases e
  | .sub _ _ :: _, [], _, _, _, _, _, _, _, _, _, _, _, e, _ => by cases e
theorem putsX_len : ∀ {ts : List TX} {ds : List D} {δ : Ev} {h : Hh} {Φ : Fn} {r : Ev × Hh}, putsX P Φ ts ds δ h = some r → ds.length = ts.length
  | [], [], _, _, _, _, _ => rfl
  | .nm i :: ts, d :: ds, δ, h, Φ, r, e => by
    simp only [putsX] at e
    simp [putsX_len e]
  | .sub o k :: ts, d :: ds, δ, h, Φ, r, e => by
    simp only [putsX] at e
    obtain ⟨_, _, e⟩ := Option.bind_eq_some_iff.mp e
    obtain ⟨_, _, e⟩ := Option.bind_eq_some_iff.mp e
    obtain ⟨_, _, e⟩ := Option.bind_eq_some_iff.mp e
    simp [putsX_len e]
  | [], _ :: _, _, _, _, _, e => by cases e
  | .nm _ :: _, [], _, _, _, _, e => by cases e
  | .sub _ _ :: _, [], _, _, _, _, e => by cases e
theorem os_asgT {ts : List TX} {es : EL} : OkS P G nm ad fdo n (.asgT ts es) := fun {x X T} S h => by
  cases x <;> try (simp only [chkS, Bool.false_eq_true] at h; done)
  rename_i tt v pos
  have key : ∃ tgs k p vs k2 p2, tt = [.Tuple tgs k p] ∧ v = .Tuple vs k2 p2 ∧ (chkTX P G T ts tgs && tgs.all nst && tgs.any (isSubE T.sc) && vs.all nst && decide (vs.length ≤ 1000) && chks P G T es vs) = true := by
    unfold chkS at h
    split at h
    all_goals first
      | (cases h; done)
      | (rename_i h1 h2; cases h1; cases h2; exact ⟨_, _, _, _, _, _, rfl, rfl, h⟩)
      | (rename_i h1 h2; cases h1; done)
      | (rename_i h1 h2; cases h2; done)
  obtain ⟨tgs, k, p, vs, k2, p2, rfl, rfl, hk⟩ := key
  simp only [Bool.and_eq_true, decide_eq_true_eq] at hk
  obtain ⟨⟨⟨⟨⟨h1, h2⟩, h3⟩, h4⟩, h5⟩, h6⟩ := hk
  obtain ⟨g1, g2⟩ := pgs_X S h1
  have E := (ok_tup (okA es) S (x := .Tuple vs k2 p2) (by simp only [chk, Bool.and_eq_true, decide_eq_true_eq]; exact ⟨⟨h4, h5⟩, h6⟩)).1
  refine (ps_asg E (pg_tup S.calm g1 (by rw [each_len, g2]) (each_none h2 _)) (by rw [sole_eq]; exact swaps_tup _ _ _ _ _ _) (swapped_notall h3 _ S.sc) (each_one rfl _)).imp ?_
  rintro D σ H ⟨vw, hh, δ, o, sr, en, e, kk⟩
  simp only [ex] at e
  obtain ⟨⟨ds, dh⟩, e1, e⟩ := Option.bind_eq_some_iff.mp e
  obtain ⟨r, e2, e3⟩ := Option.map_eq_some_iff.mp e
  subst e3
  refine ⟨vw, hh, δ, .tup ds, dh, sr, en, by simp only [ev, e1, Option.map_some], fun vw1 H1 w st1 sr1 rw' => ?_⟩
  cases rw' with
  | tup ht hr =>
    exact ⟨_, _, rfl, sr1.ex.sqT ht, by rw [hr.length, putsX_len e2], putsX_ok sr1 hr (en.mono st1.le) e2 fun vw2 H2 σ2 st2 sr2 en2 => kk vw2 H2 (st1.trans st2) σ2 sr2 en2⟩
/-- x op= y of two ints -/
theorem iops {X : Cx} {o : Op} {op : Operator} (h : opOk o op = true) (ho : o = .add ∨ o = .sub ∨ o = .mul) : OpR X (inplaceOp op) (fun x y H Q => ∃ i j r, x = .int i ∧ y = .int j ∧ op2 [] o (.int i) (.int j) = some (.int r) ∧ Q (.int r) H) := by
  have e := opOk_ok h
  refine OpR.by fun x y H Q ⟨i, j, r, ex, ey, e2, q⟩ => ?_
  subst ex ey
  rcases ho with rfl | rfl | rfl
  · simp only [binOf, Option.some.injEq] at e
    subst e
    simp only [op2, Option.some.injEq, D.int.injEq] at e2
    subst e2
    exact ⟨_, iop_add, i, j, rfl, rfl, q⟩
  · simp only [binOf, Option.some.injEq] at e
    subst e
    simp only [op2, Option.some.injEq, D.int.injEq] at e2
    subst e2
    exact ⟨_, iop_sub, i, j, rfl, rfl, q⟩
  · simp only [binOf, Option.some.injEq] at e
    subst e
    simp only [op2, Option.ite_none_right_eq_some, Option.some.injEq, D.int.injEq] at e2
    obtain ⟨hl, e2⟩ := e2
    subst e2
    refine ⟨_, iop_mul, i, j, rfl, rfl, ?_, q⟩
    rcases Bool.or_eq_true_iff.mp hl with q | q
    · exact .inl (small_ok q)
    · exact .inr (small_ok q)
theorem op2_int {h : Hh} {o : Op} {i j : Int} {r : D} (ho : o = .add ∨ o = .sub ∨ o = .mul) (e : op2 h o (.int i) (.int j) = some r) : ∃ z, r = .int z ∧ op2 [] o (.int i) (.int j) = some (.int z) := by
  rcases ho with rfl | rfl | rfl
  · simp only [op2, Option.some.injEq] at e; subst e; exact ⟨_, rfl, rfl⟩
  · simp only [op2, Option.some.injEq] at e; subst e; exact ⟨_, rfl, rfl⟩
  · simp only [op2, Option.ite_none_right_eq_some, Option.some.injEq] at e
    obtain ⟨h1, e⟩ := e
    subst e
    exact ⟨_, rfl, by simp only [op2, h1, if_true]⟩
theorem os_aug {i : Nat} {o : Op} {e : E} : OkS P G nm ad fdo n (.aug i o e) := fun {x X T} S h => by
  cases x <;> try (simp only [chkS, Bool.false_eq_true] at h; done)
  rename_i t op v pos
  cases t <;> try (simp only [chkS, Bool.false_eq_true] at h; done)
  rename_i y p
  simp only [chkS, Bool.and_eq_true, decide_eq_true_eq] at h
  obtain ⟨⟨⟨h1, h2⟩, h3⟩, h4⟩ := h
  unfold slotOk at h1
  simp only [Bool.and_eq_true, Bool.or_eq_true, decide_eq_true_eq] at h1
  have hloc : Loc X.env.scope y := by
    rw [S.sc]
    rcases h1.2 with q | q
    · exact .inl (lcl_ok q)
    · exact .inr (cll_ok q.1)
  refine (ps_aug (by rw [S.N]; exact S.nd) (by rw [S.N]; exact h1.1) hloc (okE e S h4).1 (iops (X := X) h2 h3) (by
    rw [S.sc, S.fn]
    rcases h1.2 with q | q
    · exact .inr (lcl_ok q)
    · exact .inl q.2)).imp ?_
  rintro D σ H ⟨vw, hh, δ, o, sr, en, e, k⟩
  simp only [ex] at e
  obtain ⟨d, e1, e⟩ := Option.bind_eq_some_iff.mp e
  obtain ⟨⟨vd, vh⟩, e2, e⟩ := Option.bind_eq_some_iff.mp e
  obtain ⟨w, w1, w2⟩ := en.look e1
  refine ⟨w, w1, vw, hh, δ, vd, vh, sr, en, e2, fun vw1 H1 z st1 sr1 rz => ?_⟩
  cases w2 with
  | int a =>
    cases rz with
    | int b =>
      obtain ⟨r, e3, e4⟩ := Option.map_eq_some_iff.mp e
      subst e4
      obtain ⟨zz, rfl, e5⟩ := op2_int h3 e3
      exact ⟨a, b, zz, rfl, rfl, e5, k vw1 H1 st1 _ sr1 ((en.mono st1.le).set (.int _))⟩
    | _ => cases e
  | _ => cases e
theorem os_augF {c f : Nat} {op : Op} {o e : E} : OkS P G nm ad fdo n (.augF c o f op e) := fun {x X T} S h => by
  cases x <;> try (simp only [chkS, Bool.false_eq_true] at h; done)
  rename_i t op' v pos
  cases t <;> try (simp only [chkS, Bool.false_eq_true] at h; done)
  rename_i o' m p
  simp only [chkS, Bool.and_eq_true, decide_eq_true_eq] at h
  obtain ⟨⟨⟨⟨⟨h1, h2⟩, h3⟩, h4⟩, h5⟩, h6⟩ := h
  have e0 := sEq_ok h2
  subst e0
  obtain ⟨c1, c2⟩ := S.fac.fld c f h1
  rw [S.fac.fnm] at c2
  refine (ps_fldaug (okE o S h5).1 (okE e S h6).1 (iops (X := X) h3 h4)).imp ?_
  rintro D σ H ⟨vw, hh, δ, o, sr, en, e, k⟩
  simp only [ex] at e
  obtain ⟨⟨od, oh⟩, e1, e⟩ := Option.bind_eq_some_iff.mp e
  obtain ⟨⟨l, c', fs⟩, e2, e⟩ := Option.bind_eq_some_iff.mp e
  obtain ⟨d, e3, e⟩ := Option.bind_eq_some_iff.mp e
  obtain ⟨⟨vd, vh⟩, e4, e⟩ := Option.bind_eq_some_iff.mp e
  obtain ⟨⟨l2, c2', fs2⟩, e5, e⟩ := Option.bind_eq_some_iff.mp e
  dsimp only at e
  refine ⟨vw, hh, δ, od, oh, sr, en, e1, fun vw1 H1 w st1 sr1 rw' => ?_⟩
  obtain ⟨a, dx, gs, ea, ed, hl, hcell, hH, hnn, hrs⟩ := ins_of sr1 rw' e2
  obtain ⟨u, l1, l2'⟩ := lookup_fld hnn hrs e3
  have hcc : c' = c := by
    cases d <;> try (cases e; done)
    cases vd <;> try (cases e; done)
    simp only [Option.ite_none_right_eq_some] at e
    exact e.1.1
  subst hcc
  refine ⟨a, _, dx, gs, u, ea, hH, c1, c2, by rw [← S.fac.fnm]; exact l1, ?_⟩
  refine ⟨vw1, oh, δ, vd, vh, sr1, en.mono st1.le, e4, fun vw2 H2 z st2 sr2 rz => ?_⟩
  have rw2 := rw'.mono st2.le
  obtain ⟨a2, dx2, gs2, ea2, ed2, hl2, hcell2, hH2, hnn2, hrs2⟩ := ins_of sr2 rw2 e5
  have haa : a2 = a := by rw [ea] at ea2; exact (V.ref.inj ea2).symm
  subst haa
  cases l2' with
  | int x =>
    cases rz with
    | int y =>
      simp only [Option.ite_none_right_eq_some] at e
      obtain ⟨⟨_, hc2, hlen⟩, e9⟩ := e
      subst hc2
      obtain ⟨r, e6, e7⟩ := Option.map_eq_some_iff.mp e9
      subst e7
      obtain ⟨zz, rfl, e8⟩ := op2_int h4 e6
      have hlen2 : gs2.length = fs2.length := by
        have := congrArg List.length hnn2
        simpa using this
      refine ⟨x, y, zz, rfl, rfl, e8, dx2, gs2, hH2, n900 (by rw [hlen2]; exact hlen), ?_⟩
      rw [← S.fac.fnm]
      have stw := sr2.stW (.ins (nm.ca c2') dx2 (putF (nm.fn f) (.int zz) gs2)) hl2
      obtain ⟨q1, q2⟩ := putF_at (f := f) (K := X.K) (vw := vw2) (.int zz) hnn2 hrs2
      exact k vw2 _ (st1.trans (st2.trans stw)) σ (sr2.write hl2 ⟨dx2, _, upd_same, q1, q2⟩) ((en.mono st1.le).mono st2.le)
    | _ => cases e
  | _ => cases e
theorem os_ite {t : E} {a b : SL} (ha : OkL P G nm ad fdo n a) (hb : OkL P G nm ad fdo n b) : OkS P G nm ad fdo n (.ite t a b) := fun {x X T} S h => by
  cases x <;> try (simp only [chkS, Bool.false_eq_true] at h; done)
  simp only [chkS, Bool.and_eq_true] at h
  obtain ⟨⟨⟨h0, h1⟩, h2⟩, h3⟩ := h
  refine (ps_if ((okE t S h1).2.1 h0) (ha S h2) (hb S h3)).imp ?_
  rintro D σ H ⟨vw, hh, δ, o, sr, en, e, k⟩
  simp only [ex] at e
  obtain ⟨⟨d, dh⟩, e1, e⟩ := Option.bind_eq_some_iff.mp e
  cases d <;> try (cases e; done)
  rename_i c
  refine ⟨vw, hh, δ, c, dh, sr, en, e1, fun vw1 H1 st1 sr1 => ?_⟩
  cases c with
  | true =>
    show (if true = true then _ else _)
    rw [if_pos rfl]
    refine ⟨vw1, dh, δ, o, sr1, en.mono st1.le, e, fun vw2 H2 st2 => ?_⟩
    exact k vw2 H2 (st1.trans st2)
  | false =>
    show (if false = true then _ else _)
    rw [if_neg Bool.false_ne_true]
    refine ⟨vw1, dh, δ, o, sr1, en.mono st1.le, e, fun vw2 H2 st2 => ?_⟩
    exact k vw2 H2 (st1.trans st2)
theorem os_for {tg : Tg} {it : It} {b : SL} (hb : OkL P G nm ad fdo n b) : OkS P G nm ad fdo n (.for tg it b) := fun {x X T} S h => by
  cases x <;> try (simp only [chkS, Bool.false_eq_true] at h; done)
  rename_i tg' it' b' oe pos
  cases oe with
  | cons _ _ => simp [chkS] at h
  | nil =>
    simp only [chkS, Bool.and_eq_true] at h
    obtain ⟨⟨⟨h1, h2⟩, h3⟩, h4⟩ := h
    refine (ps_for S.pass S.calm (okI it (tg := tg') S h2) (chkG_ok S h1) (hb S h4) (fold_plain h3 _)).imp ?_
    rintro D σ H ⟨vw, hh, δ, o, sr, en, e, k⟩
    simp only [ex] at e
    obtain ⟨⟨xs, hx⟩, e1, e⟩ := Option.bind_eq_some_iff.mp e
    refine ⟨vw, hh, δ, xs, hx, sr, en, e1, fun vw1 H1 J st1 sr1 w => ?_⟩
    refine for_it w (fun i σ' H' => ∃ vw2 h2 δ2, Stp vw1 H1 vw2 H' ∧ SR X.K nm vw2 H' h2 ∧ EnvR X.K vw2 σ' δ2 ∧ forLoop tg (exs P (run P n) b) (xs.drop i) δ2 h2 = some o) ?_ ?_ ?_ ?_
    · exact ⟨vw1, hx, δ, Stp.rfl, sr1, en.mono st1.le, e⟩
    · rintro i σ2 H2 _ ⟨vw2, h2, δ2, s2, sr2, _⟩
      exact s2.le.ex.trans sr2.ex
    · rintro i x σ2 H2 H3 hi ⟨vw2, h2, δ2, s2, sr2, en2, el⟩ hy
      obtain ⟨vw3, dd, s3, sr3, hd, rx⟩ := hy vw2 h2 s2.le sr2
      rw [drop_at hd] at el
      simp only [forLoop] at el
      obtain ⟨δ3, ep, el⟩ := Option.bind_eq_some_iff.mp el
      obtain ⟨ob, eb, el⟩ := Option.bind_eq_some_iff.mp el
      refine put_ok sr3 rx (en2.mono s3.le) ep fun σ3 en3 _ => ?_
      refine ⟨vw3, h2, δ3, ob, sr3, en3, eb, fun vw4 H4 s4 => ?_⟩
      cases ob with
      | nx δ4 h4 => exact fun σ4 sr4 en4 => ⟨vw4, h4, δ4, s2.trans (s3.trans s4), sr4, en4, el⟩
      | ct δ4 h4 => exact fun σ4 sr4 en4 => ⟨vw4, h4, δ4, s2.trans (s3.trans s4), sr4, en4, el⟩
      | bk δ4 h4 =>
        have el := Option.some.inj el
        subst el
        exact fun σ4 sr4 en4 => k vw4 H4 (st1.trans (s2.trans (s3.trans s4))) σ4 sr4 en4
      | rt d h4 =>
        have el := Option.some.inj el
        subst el
        exact fun v sr4 rv => k vw4 H4 (st1.trans (s2.trans (s3.trans s4))) v sr4 rv
    · rintro σ2 H2 ⟨vw2, h2, δ2, s2, sr2, en2, el⟩
      rw [List.drop_length] at el
      have el := Option.some.inj el
      subst el
      exact k vw2 H2 (st1.trans s2) σ2 sr2 en2
theorem os_while {t : E} {b : SL} (hb : OkL P G nm ad fdo n b) : OkS P G nm ad fdo n (.while t b) := fun {x X T} S h => by
  cases x <;> try (simp only [chkS, Bool.false_eq_true] at h; done)
  rename_i t' b' oe pos
  cases oe with
  | cons _ _ => simp [chkS] at h
  | nil =>
    simp only [chkS, Bool.and_eq_true] at h
    obtain ⟨⟨h0, h1⟩, h2⟩ := h
    refine (ps_while S.pass ((okE t S h1).2.1 h0) (hb S h2)).imp ?_
    rintro D σ H ⟨vw, hh, δ, o, sr, en, e, k⟩
    simp only [ex] at e
    refine ⟨fun m σ' H' => ∃ vw2 h2 δ2, Stp vw H vw2 H' ∧ SR X.K nm vw2 H' h2 ∧ EnvR X.K vw2 σ' δ2 ∧ whileLoop (ev P (run P n) t) (exs P (run P n) b) m δ2 h2 = some o, ⟨1000000, vw, hh, δ, Stp.rfl, sr, en, e⟩, ?_⟩
    rintro m σ2 H2 ⟨vw2, h2, δ2, s2, sr2, en2, el⟩
    cases m with
    | zero => cases el
    | succ m =>
      simp only [whileLoop] at el
      obtain ⟨⟨d, dh⟩, e1, el⟩ := Option.bind_eq_some_iff.mp el
      cases d <;> try (cases el; done)
      rename_i c
      refine ⟨vw2, h2, δ2, c, dh, sr2, en2, e1, fun vw3 H3 s3 sr3 => ?_⟩
      cases c with
      | false =>
        show (if false = true then _ else _)
        rw [if_neg Bool.false_ne_true]
        have el := Option.some.inj el
        subst el
        exact k vw3 H3 (s2.trans s3) σ2 sr3 (en2.mono s3.le)
      | true =>
        show (if true = true then _ else _)
        rw [if_pos rfl]
        obtain ⟨ob, eb, el⟩ := Option.bind_eq_some_iff.mp el
        refine ⟨fun σ' H' => ∃ vw2 h2 δ2, Stp vw H vw2 H' ∧ SR X.K nm vw2 H' h2 ∧ EnvR X.K vw2 σ' δ2 ∧ whileLoop (ev P (run P n) t) (exs P (run P n) b) m δ2 h2 = some o, fun σ' H' q => ⟨m, Nat.lt_succ_self _, q⟩, ?_⟩
        refine ⟨vw3, dh, δ2, ob, sr3, en2.mono s3.le, eb, fun vw4 H4 s4 => ?_⟩
        cases ob with
        | nx δ4 h4 => exact fun σ4 sr4 en4 => ⟨vw4, h4, δ4, s2.trans (s3.trans s4), sr4, en4, el⟩
        | ct δ4 h4 => exact fun σ4 sr4 en4 => ⟨vw4, h4, δ4, s2.trans (s3.trans s4), sr4, en4, el⟩
        | bk δ4 h4 =>
          have el := Option.some.inj el
          subst el
          exact fun σ4 sr4 en4 => k vw4 H4 (s2.trans (s3.trans s4)) σ4 sr4 en4
        | rt d h4 =>
          have el := Option.some.inj el
          subst el
          exact fun v sr4 rv => k vw4 H4 (s2.trans (s3.trans s4)) v sr4 rv
theorem ol_nil : OkL P G nm ad fdo n .nil := fun {x X T} S h => by
  cases x <;> try (simp only [chkL, Bool.false_eq_true] at h; done)
  refine pss_nil.imp ?_
  rintro D σ H ⟨vw, hh, δ, o, sr, en, e, k⟩
  simp only [exs, Option.some.injEq] at e
  subst e
  exact k vw H Stp.rfl σ sr en
theorem ol_cons {s : S} {ss : SL} (hs : OkS P G nm ad fdo n s) (hr : OkL P G nm ad fdo n ss) : OkL P G nm ad fdo n (.cons s ss) := fun {x X T} S h => by
  cases x <;> try (simp only [chkL, Bool.false_eq_true] at h; done)
  simp only [chkL, Bool.and_eq_true] at h
  refine (pss_cons (hs S h.1) (hr S h.2)).imp ?_
  rintro D σ H ⟨vw, hh, δ, o, sr, en, e, k⟩
  simp only [exs] at e
  obtain ⟨o1, e1, e⟩ := Option.bind_eq_some_iff.mp e
  refine ⟨vw, hh, δ, o1, sr, en, e1, fun vw1 H1 st1 => ?_⟩
  cases o1 with
  | nx δ1 h1 =>
    refine fun σ1 sr1 en1 => ⟨vw1, h1, δ1, o, sr1, en1, e, fun vw2 H2 st2 => ?_⟩
    exact k vw2 H2 (st1.trans st2)
  | bk δ1 h1 =>
    have e := Option.some.inj e
    subst e
    exact k vw1 H1 st1
  | ct δ1 h1 =>
    have e := Option.some.inj e
    subst e
    exact k vw1 H1 st1
  | rt d h1 =>
    have e := Option.some.inj e
    subst e
    exact k vw1 H1 st1
mutual
theorem okS : ∀ s : S, OkS P G nm ad fdo n s
  | .asg tg e => os_asg
  | .asgF c o f e => os_asgF
  | .asgI o i e => os_asgI
  | .par i j a b => os_par
  | .asgT ts es => os_asgT
  | .aug i o e => os_aug
  | .augF c o f op e => os_augF
  | .expr e => os_expr
  | .ret e => os_ret
  | .retN => os_retN
  | .ite t a b => os_ite (okL a) (okL b)
  | .for tg it b => os_for (okL b)
  | .while t b => os_while (okL b)
  | .pass => os_pass
  | .brk => os_brk
  | .cont => os_cont
  | .never => os_never
theorem okL : ∀ s : SL, OkL P G nm ad fdo n s
  | .nil => ol_nil
  | .cons s ss => ol_cons (okS s) (okL ss)
end
end
end VI

/-! VI, part N: a def hands back. -/
namespace VI
open PySem L2 PyProof.Rows
section
variable {K : PySem.W.Frag} {nm : Nm} {vw vw1 vw2 : Vw} {n : Nat}
mutual
theorem rep_low (hρ : ∀ l : Nat, l < n → vw2.ρ[l]? = vw1.ρ[l]?) (hF : Ex vw1.F vw2.F) : ∀ {v : V} {d : D}, Rep K vw1 v d → D.low n d = true → Rep K vw2 v d
  | _, _, .non, _ => .non
  | _, _, .bl b, _ => .bl b
  | _, _, .int i, _ => .int i
  | _, _, .str s, _ => .str s
  | _, _, .tup h r, q => .tup (hF.sqT h) (reps_low hρ hF r (by simpa [D.low] using q))
  | _, _, .lst h r, q => .lst (hF _ _ h) (reps_low hρ hF r (by simpa [D.low] using q))
  | _, _, .scr h r, q => .scr (hF.sqL h) (reps_low hρ hF r (by simpa [D.low] using q))
  | _, _, .dct h r, q => .dct (hF _ _ h) (reps_low hρ hF r (by
      simp only [D.low, Bool.and_eq_true] at q
      exact q.2))
  | _, _, .ref h, q => .ref (by
      have hl : _ < n := of_decide_eq_true (by simpa only [D.low] using q)
      rw [hρ _ hl]; exact h)
theorem reps_low (hρ : ∀ l : Nat, l < n → vw2.ρ[l]? = vw1.ρ[l]?) (hF : Ex vw1.F vw2.F) : ∀ {v : List V} {d : List D}, Reps K vw1 v d → D.lows n d = true → Reps K vw2 v d
  | _, _, .nil, _ => .nil
  | _, _, .cons h r, q => by
    simp only [D.lows, Bool.and_eq_true] at q
    exact .cons (rep_low hρ hF h q.1) (reps_low hρ hF r q.2)
end
theorem lows_fs : ∀ {fs : List (Nat × D)}, (fs.all fun p => D.low n p.2) = true → D.lows n (fs.map (·.2)) = true
  | [], _ => rfl
  | p :: fs, h => by
    rw [List.all_cons, Bool.and_eq_true] at h
    simp only [List.map_cons, D.lows, h.1, lows_fs h.2, Bool.and_self]
theorem ob_low (hρ : ∀ l : Nat, l < n → vw2.ρ[l]? = vw1.ρ[l]?) (hF : Ex vw1.F vw2.F) {H : Hp} {a : Addr} : ∀ {o : Ob}, ObR K nm vw1 H a o → Ob.low n o = true → ObR K nm vw2 H a o
  | .lst xs, ⟨vs, h, r⟩, q => ⟨vs, h, reps_low hρ hF r q⟩
  | .dct ks vs, ⟨kvs, h, e, r⟩, q => ⟨kvs, h, e, reps_low hρ hF r (by
      simp only [Ob.low, Bool.and_eq_true] at q
      exact q.2)⟩
  | .ins c fs, ⟨dx, gs, h, e, r⟩, q => ⟨dx, gs, h, e, reps_low hρ hF r (lows_fs q)⟩
/-- the new cells forgotten; what stands for ever may be more -/
theorem sr_cut {H H1 : Hp} {h h1 h' : Hh} {F2 : Hp} (sr : SR K nm vw H h) (st : Stp vw H vw1 H1) (sr1 : SR K nm vw1 H1 h1) (hc : cutH h.length h1 = some h') (hF : Ex vw1.F F2) (hex : Ex F2 H1) (hnf : ∀ a ∈ vw.ρ, F2 a = none) :
    SR K nm ⟨vw.ρ, F2⟩ H1 h' ∧ (∀ l : Nat, l < h.length → (⟨vw.ρ, F2⟩ : Vw).ρ[l]? = vw1.ρ[l]?) := by
  unfold cutH at hc
  simp only [Option.ite_none_right_eq_some, Option.some.injEq, Bool.and_eq_true, decide_eq_true_eq] at hc
  obtain ⟨⟨h2, h3⟩, h4⟩ := hc
  subst h4
  obtain ⟨t, ht⟩ := st.le.pre
  have hρ : ∀ l : Nat, l < h.length → (⟨vw.ρ, F2⟩ : Vw).ρ[l]? = vw1.ρ[l]? := fun l hl => by
    show vw.ρ[l]? = vw1.ρ[l]?
    rw [ht, List.getElem?_append_left (by rw [sr.len]; exact hl)]
  refine ⟨⟨hex, ?_, sr.nd, hnf, fun l o a e e2 => ?_⟩, hρ⟩
  · show vw.ρ.length = (h1.take h.length).length
    rw [List.length_take, sr.len]; omega
  · have hl : l < h.length := by
      have := (List.getElem?_eq_some_iff.mp e).1
      rw [List.length_take] at this; omega
    have e3 : h1[l]? = some o := by rw [List.getElem?_take_of_lt hl] at e; exact e
    have lo : Ob.low h.length o = true := by
      have := List.all_eq_true.mp h2 o (List.mem_of_getElem? e)
      exact this
    exact ob_low hρ hF (sr1.ob l o a e3 (by rw [← hρ l hl]; exact e2)) lo
theorem back_ok {H H1 : Hp} {h h1 h' : Hh} {m : Mode} {r d : D} {v : V} (sr : SR K nm vw H h) (st : Stp vw H vw1 H1) (sr1 : SR K nm vw1 H1 h1) (rv : Rep K vw1 v r) (e : back m h.length r h1 = some (d, h')) :
    ∃ vw2, Stp vw H vw2 H1 ∧ SR K nm vw2 H1 h' ∧ Rep K vw2 v d := by
  have clo : ∀ {r' : D}, D.low h.length r' = true → (cutH h.length h1).map (fun x => (r', x)) = some (d, h') → Rep K vw1 v r' → ∃ vw2, Stp vw H vw2 H1 ∧ SR K nm vw2 H1 h' ∧ Rep K vw2 v d := fun {r'} hlow e rv' => by
    obtain ⟨hx, e1, e2⟩ := Option.map_eq_some_iff.mp e
    simp only [Prod.mk.injEq] at e2
    obtain ⟨rfl, rfl⟩ := e2
    have hnf : ∀ a ∈ vw.ρ, vw1.F a = none := fun a ha => by
      obtain ⟨t, ht⟩ := st.le.pre
      exact sr1.nf a (by rw [ht]; exact List.mem_append_left _ ha)
    obtain ⟨s2, hρ⟩ := sr_cut sr st sr1 e1 Ex.rfl sr1.ex hnf
    exact ⟨⟨vw.ρ, vw1.F⟩, ⟨⟨⟨[], by simp⟩, st.le.ex⟩, st.keep, st.newF, fun a ha => .inl ha⟩, s2, rep_low hρ Ex.rfl rv' hlow⟩
  cases m with
  | raw =>
    simp only [back, Option.some.injEq, Prod.mk.injEq] at e
    obtain ⟨rfl, rfl⟩ := e
    exact ⟨vw1, st, sr1, rv⟩
  | clo =>
    simp only [back] at e
    split at e
    · simp only [Option.some.injEq, Prod.mk.injEq] at e
      obtain ⟨rfl, rfl⟩ := e
      exact ⟨vw1, st, sr1, rv⟩
    · simp only [Option.ite_none_right_eq_some] at e
      exact clo e.1 e.2 rv
  | frz =>
    have other : (if D.low h.length r = true then (cutH h.length h1).map fun x => (r, x) else none) = some (d, h') → ∃ vw2, Stp vw H vw2 H1 ∧ SR K nm vw2 H1 h' ∧ Rep K vw2 v d := fun e => by
      simp only [Option.ite_none_right_eq_some] at e
      exact clo e.1 e.2 rv
    cases rv with
    | @ref a l hl =>
      simp only [back, Option.ite_none_right_eq_some] at e
      obtain ⟨hle, e⟩ := e
      have na : a ∉ vw.ρ := fun hm => by
        obtain ⟨t, ht⟩ := st.le.pre
        obtain ⟨i, hi, ei⟩ := List.mem_iff_getElem.mp hm
        have h1' := List.getElem?_eq_some_iff.mp hl
        obtain ⟨i1, q1⟩ := h1'
        have hi2 : i < vw1.ρ.length := by rw [ht, List.length_append]; omega
        have q2 : vw1.ρ[i] = a := by
          have : vw1.ρ[i]? = some a := by
            rw [ht, List.getElem?_append_left hi]
            simp [hi, ei]
          exact (List.getElem?_eq_some_iff.mp this).2
        have : l = i := (List.getElem_inj sr1.nd).mp (q1.trans q2.symm)
        rw [sr.len] at hi
        omega
      have nH : H a = none := by
        rcases st.newR a (List.mem_of_getElem? hl) with q | q
        · exact absurd q na
        · exact q
      have nF : vw1.F a = none := sr1.nf a (List.mem_of_getElem? hl)
      have put : ∀ (o : HO), H1 a = some o → ∀ {hx : Hh}, cutH h.length h1 = some hx → SR K nm ⟨vw.ρ, upd vw1.F a o⟩ H1 hx ∧ (∀ l : Nat, l < h.length → (⟨vw.ρ, upd vw1.F a o⟩ : Vw).ρ[l]? = vw1.ρ[l]?) ∧ Stp vw H ⟨vw.ρ, upd vw1.F a o⟩ H1 ∧ Ex vw1.F (upd vw1.F a o) := fun o hH1 {hx} hcut => by
        have hF : Ex vw1.F (upd vw1.F a o) := fun b u q => by rw [upd_ne (ne_of_none q nF)]; exact q
        have hex : Ex (upd vw1.F a o) H1 := fun b u q => by
          by_cases hb : b = a
          · subst hb; rw [upd_same] at q; rw [← q]; exact hH1
          · rw [upd_ne hb] at q; exact sr1.ex _ _ q
        have hnf : ∀ b ∈ vw.ρ, upd vw1.F a o b = none := fun b hb => by
          have ne : b ≠ a := fun q => na (q ▸ hb)
          rw [upd_ne ne]
          obtain ⟨t, ht⟩ := st.le.pre
          exact sr1.nf b (by rw [ht]; exact List.mem_append_left _ hb)
        obtain ⟨s2, hρ⟩ := sr_cut sr st sr1 hcut hF hex hnf
        refine ⟨s2, hρ, ⟨⟨⟨[], by simp⟩, st.le.ex.trans hF⟩, st.keep, fun b u q => ?_, fun b hb => .inl hb⟩, hF⟩
        have q : upd vw1.F a o b = some u := q
        by_cases hb : b = a
        · subst hb; exact .inr (.inr nH)
        · rw [upd_ne hb] at q; exact st.newF b u q
      cases hc : h1[l]? with
      | none => rw [hc] at e; cases e
      | some ob =>
        rw [hc] at e
        cases ob with
        | lst xs =>
          simp only [Option.ite_none_right_eq_some] at e
          obtain ⟨hlow, e⟩ := e
          obtain ⟨hx, e1, e2⟩ := Option.map_eq_some_iff.mp e
          simp only [Prod.mk.injEq] at e2
          obtain ⟨rfl, rfl⟩ := e2
          obtain ⟨vs, hH, hr⟩ := sr1.ob _ _ _ hc hl
          obtain ⟨s2, hρ, st2, hF⟩ := put (.lst vs) hH e1
          exact ⟨_, st2, s2, .lst upd_same (reps_low hρ hF hr hlow)⟩
        | dct ks vs =>
          simp only [Option.ite_none_right_eq_some, Bool.and_eq_true] at e
          obtain ⟨⟨hlow1, hlow⟩, e⟩ := e
          obtain ⟨hx, e1, e2⟩ := Option.map_eq_some_iff.mp e
          simp only [Prod.mk.injEq] at e2
          obtain ⟨rfl, rfl⟩ := e2
          obtain ⟨kvs, hH, hk, hr⟩ := sr1.ob _ _ _ hc hl
          subst hk
          obtain ⟨s2, hρ, st2, hF⟩ := put (.dK kvs) hH e1
          exact ⟨_, st2, s2, .dct upd_same (reps_low hρ hF hr hlow)⟩
        | ins c fs => cases e
    | _ => exact other e
end
/-! ### defs -/
/-- what the text says of a def -/
structure DefT where
  x : Str
  qual : Str
  st : Stmt
  N : List Str
  ps : List Str
  kwd : List (Str × He.Dv)
def DefT.kws (K : PySem.W.Frag) (t : DefT) : List (Str × V) := t.kwd.map fun q => (q.1, q.2.v K)
theorem start_env {K : PySem.W.Frag} {vw : Vw} {N : List Str} {vs : List V} {ds : List D} (r : Reps K vw vs ds) : EnvR K vw (L2.start N vs) (ds.map some ++ List.replicate (N.length - ds.length) none) := by
  have hl := r.length
  refine ⟨by simp [L2.start, hl], fun i d h => ?_⟩
  by_cases hi : i < ds.length
  · rw [List.getElem?_append_left (by simpa using hi), List.getElem?_map] at h
    obtain ⟨d2, h1, h2⟩ := Option.map_eq_some_iff.mp h
    have h2 := Option.some.inj h2
    subst h2
    obtain ⟨v, a, b⟩ := r.at h1
    refine ⟨v, ?_, b⟩
    unfold L2.start
    rw [List.getElem?_append_left (by simpa [hl] using hi), List.getElem?_map, a]
    rfl
  · rw [List.getElem?_append_right (by simpa using hi), List.getElem?_replicate] at h
    split at h <;> simp at h
/-- the text of all defs, checked -/
def defOk (P : Pg) (G : Gm) (f : Nat) (d : DefI) (t : DefT) : Bool := chkL P G ⟨t.N, defScope t.st, fun _ => true, G.grd.contains f⟩ d.body (defBody t.st) && decide (d.slots = t.N.length) && decide (d.npar = t.ps.length)
structure TxtOk (P : Pg) (G : Gm) (K : PySem.W.Frag) (ad : Nat → Addr) (fdo : Nat → FuncData) (ts : List DefT) : Prop where
  at_ : ∀ (f : Nat) (d : DefI) (ps : List Str), P.defs[f]? = some d → G.pss[f]? = some ps → ∃ t, ts[f]? = some t ∧ t.ps = ps ∧ defOk P G f d t = true ∧ FnScope t.N t.ps (defScope t.st) ∧ FunD K t.x t.qual (defArgs t.st) (defBody t.st) (defScope t.st) [] (t.kws K) (ad f) (fdo f)
/-- a def's body runs as the interpreter tells -/
theorem body_ok {P : Pg} {G : Gm} {nm : Nm} {ad : Nat → Addr} {fdo : Nat → FuncData} {Pr : Program} {w : World} {K : PySem.W.Frag} {mg : Str → Option Value} {base : Heap} {n f : Nat} {d : DefI} {t : DefT} (fac : Fac P G nm K mg ad fdo) (hd : P.defs[f]? = some d) (h2 : defOk P G f d t = true) (nd : t.N.Nodup)
    (ih : ∀ (g : Nat) (d : DefI) (ps : List Str), P.defs[g]? = some d → G.pss[g]? = some ps → G.grd.contains g = false → FnOk Pr w K mg base CX0 (2 * n) (ad g) (fdo g) ps (spI K nm P n g))
    (ig : ∀ (g : Nat) (d : DefI) (ps : List Str), P.defs[g]? = some d → G.pss[g]? = some ps → G.grd.contains g = true → FnG Pr w K mg base (2 * n) (ad g) (fdo g) ps (spI K nm P n g))
    (cdv : Value) (A : Around) (outer : List Env) (s : Shared) (H : Hp) (vs : List V) (Q : VK) (E : XK) (gd : G.grd.contains f = true → A.guards = some []) (hr : Room (2 * n + 1) (A.deeper (envOfC t.qual (defScope t.st) s.heap.objs.size (ad f) cdv))) (h : spI K nm P (n + 1) f vs H Q E) :
    ∃ tt, PSs (cxOf CX0 Pr w K mg base t.N t.qual (defScope t.st) (ad f) cdv A outer s H E) (defBody t.st) tt ∧ tt ⟨fun _ H' => Q .non H', Q, fun _ _ => False, fun _ _ => False⟩ (L2.start t.N vs) H := by
  unfold defOk at h2
  simp only [Bool.and_eq_true, decide_eq_true_eq] at h2
  obtain ⟨⟨h3, h4⟩, h5⟩ := h2
  have Sit0 : Sit P G nm ad fdo n (cxOf CX0 Pr w K mg base t.N t.qual (defScope t.st) (ad f) cdv A outer s H E).nox ⟨t.N, defScope t.st, fun _ => true, G.grd.contains f⟩ :=
    ⟨rfl, rfl, nd, rfl, rfl, rfl, hr, fac, ih, gd, ig⟩
  refine ⟨_, PSs.nox (okL d.body Sit0 h3), ?_⟩
  obtain ⟨vw, h0, ds, d0, hf, sr, rs, e, k⟩ := h
  simp only [run, hd, Option.ite_none_right_eq_some] at e
  obtain ⟨hl, e⟩ := e
  obtain ⟨o, e1, e⟩ := Option.bind_eq_some_iff.mp e
  rw [h4] at e1
  refine ⟨vw, h0, _, o, sr, start_env rs, e1, fun vw1 H1 st1 => ?_⟩
  cases o with
  | nx δ1 h1 =>
    refine fun σ' sr1 _ => ?_
    obtain ⟨vw2, s2, sr2, rv2⟩ := back_ok (v := .non) sr st1 sr1 .non e
    exact k vw2 H1 .non s2 sr2 rv2
  | rt r h1 =>
    refine fun v sr1 rv => ?_
    obtain ⟨vw2, s2, sr2, rv2⟩ := back_ok sr st1 sr1 rv e
    exact k vw2 H1 v s2 sr2 rv2
  | bk _ _ => cases e
  | ct _ _ => cases e
theorem sp_len {P : Pg} {G : Gm} {nm : Nm} {K : PySem.W.Frag} {n f : Nat} {d : DefI} {t : DefT} (hd : P.defs[f]? = some d) (h2 : defOk P G f d t = true) (vs : List V) (H : Hp) (Q : VK) (E : XK) (h : spI K nm P (n + 1) f vs H Q E) : vs.length = t.ps.length := by
  unfold defOk at h2
  simp only [Bool.and_eq_true, decide_eq_true_eq] at h2
  obtain ⟨vw, h0, ds, d0, h1, sr, rs, e, k⟩ := h
  obtain ⟨d', e1, e2⟩ := run_len e
  rw [hd] at e1
  cases e1
  rw [rs.length, e2, h2.2]
theorem fn_both {P : Pg} {G : Gm} {nm : Nm} {ad : Nat → Addr} {fdo : Nat → FuncData} {Pr : Program} {w : World} {K : PySem.W.Frag} {mg : Str → Option Value} {base : Heap} {ts : List DefT} (fac : Fac P G nm K mg ad fdo) (tx : TxtOk P G K ad fdo ts) (n : Nat) :
    (∀ (f : Nat) (d : DefI) (ps : List Str), P.defs[f]? = some d → G.pss[f]? = some ps → G.grd.contains f = false → FnOk Pr w K mg base CX0 (2 * n) (ad f) (fdo f) ps (spI K nm P n f)) ∧
    (∀ (f : Nat) (d : DefI) (ps : List Str), P.defs[f]? = some d → G.pss[f]? = some ps → G.grd.contains f = true → FnG Pr w K mg base (2 * n) (ad f) (fdo f) ps (spI K nm P n f)) := by
  induction n with
  | zero =>
    have no : ∀ f vs H Q E, spI K nm P 0 f vs H Q E → False := fun f vs H Q E h => by
      obtain ⟨vw, h0, ds, d0, h1, sr, rs, e, k⟩ := h
      simp [run] at e
    exact ⟨fun f d ps _ _ _ => ⟨fun vs H Q E h => (no f vs H Q E h).elim, fun A outer s H args us vs Q E _ _ _ _ h => (no f vs H Q E h).elim⟩, fun f d ps _ _ _ => ⟨fun vs H Q E h => (no f vs H Q E h).elim, fun A _ _ l s H _ args us vs Q E _ _ h => (no f vs H Q E h).elim⟩⟩
  | succ n ih =>
    obtain ⟨i1, i2⟩ := ih
    refine ⟨fun f d ps hd hps hg => ?_, fun f d ps hd hps hg => ?_⟩
    · obtain ⟨t, h1, rfl, h2, S, F⟩ := tx.at_ f d ps hd hps
      exact F.ok (k := 2 * n + 1) S (sp_len hd h2) (fun cdv A outer s H vs Q E hr h => body_ok fac hd h2 S.nd i1 i2 cdv A outer s H vs Q E (fun z => by rw [hg] at z; cases z) hr h)
    · obtain ⟨t, h1, rfl, h2, S, F⟩ := tx.at_ f d ps hd hps
      exact g_of (k := 2 * n + 1) F S (sp_len hd h2) (fun cdv A outer s H vs Q E gd hr h => body_ok fac hd h2 S.nd i1 i2 cdv A outer s H vs Q E (fun _ => gd) hr h)
end VI

/-! VI, part O: the end: facts of the head, and a law from its plain statement. -/
namespace VI
open PySem L2 PyProof.Rows
open He (ga ma Fa)
open He5 (wf wrapB)
def clsN (G : Gm) (c : Nat) : Str := (G.cls[c]?).getD ""
def adOf (P : Pg) (G : Gm) (K : PySem.W.Frag) (f : Nat) : Addr := match P.defs[f]?, G.nms[f]? with
  | some d, some x => (match d.kind, d.cls with
    | .glob, _ => ga K x
    | .meth, some c => ma K (ga K (clsN G c)) x
    | .init, some c => ma K (ga K (clsN G c)) "__init__"
    | .prop, some c => wf K (ga K (clsN G c)) "property" x
    | .stat, some c => wf K (ga K (clsN G c)) "staticmethod" x
    | _, _ => 0)
  | _, _ => 0
def nmFree (G : Gm) (x : Str) : Bool := !(G.fnames.contains x) && x.cps.toList.all fun c => decide (c < 2000000)
def fnmOk (G : Gm) : Bool := decide G.fnames.Nodup && G.fnames.all fun x => x.cps.toList.all fun c => decide (c < 2000000)
theorem fn_ge {G : Gm} {i : Nat} (h : G.fnames.length ≤ i) : G.fn i = ⟨#[2000000 + i]⟩ := by
  unfold Gm.fn
  rw [List.getElem?_eq_none h]; rfl
theorem fn_lt {G : Gm} {i : Nat} (h : i < G.fnames.length) : G.fn i = G.fnames[i] := by
  unfold Gm.fn
  rw [List.getElem?_eq_getElem h]; rfl
theorem big_no {x : Str} {i : Nat} (h : (x.cps.toList.all fun c => decide (c < 2000000)) = true) : x ≠ ⟨#[2000000 + i]⟩ := fun e => by
  subst e
  simp at h
  omega
theorem fn_inj {G : Gm} (h : fnmOk G = true) : ∀ i j, G.fn i = G.fn j → i = j := fun i j e => by
  unfold fnmOk at h
  simp only [Bool.and_eq_true, decide_eq_true_eq] at h
  obtain ⟨h1, h2⟩ := h
  have h2 := List.all_eq_true.mp h2
  by_cases hi : i < G.fnames.length
  · rw [fn_lt hi] at e
    by_cases hj : j < G.fnames.length
    · rw [fn_lt hj] at e
      exact (List.getElem_inj h1).mp e
    · rw [fn_ge (by omega)] at e
      exact absurd e (big_no (h2 _ (List.getElem_mem hi)))
  · rw [fn_ge (i := i) (by omega)] at e
    by_cases hj : j < G.fnames.length
    · rw [fn_lt hj] at e
      exact absurd e.symm (big_no (h2 _ (List.getElem_mem hj)))
    · rw [fn_ge (i := j) (by omega)] at e
      have e : (#[2000000 + i] : Array Nat) = #[2000000 + j] := congrArg Str.cps e
      simp at e
      exact e
theorem fn_ne {G : Gm} {x : Str} (h : nmFree G x = true) (i : Nat) : G.fn i ≠ x := fun e => by
  unfold nmFree at h
  simp only [Bool.and_eq_true, Bool.not_eq_true'] at h
  by_cases hi : i < G.fnames.length
  · rw [fn_lt hi] at e
    have : G.fnames.contains x = true := by rw [List.contains_iff_mem, ← e]; exact List.getElem_mem hi
    rw [this] at h; cases h.1
  · rw [fn_ge (by omega)] at e
    exact big_no h.2 e.symm
def nmOf (G : Gm) (K : PySem.W.Frag) (h : fnmOk G = true) : Nm := ⟨fun c => ga K (clsN G c), G.fn, fn_inj h⟩
/-! ### what is looked at -/
def propB (K : PySem.W.Frag) (C : Addr) (x : Str) : Bool := decide (PySem.W.findIn K (.ref C) x = some (some (.ref (ma K C x)))) && decide (PySem.W.specialIn K (.ref (ma K C x)) "__get__" = some (some (.builtin "property.__get__"))) &&
  decide (PySem.W.takesIn K (.ref (ma K C x)) = some true) && (match PySem.W.recIn K (ma K C x) "property" with
    | some (.ref _ :: _) => true
    | _ => false)
theorem propB_ok {K : PySem.W.Frag} {C : Addr} {x : Str} (h : propB K C x = true) : PropOf K C x (ma K C x) (wf K C "property" x) := by
  unfold propB at h
  simp only [Bool.and_eq_true, decide_eq_true_eq] at h
  obtain ⟨⟨⟨h1, h2⟩, h3⟩, h4⟩ := h
  refine ⟨h1, h2, h3, ?_⟩
  unfold wf
  split at h4
  · rename_i f r e
    exact ⟨r, by rw [e]⟩
  · cases h4
def statB (K : PySem.W.Frag) (C : Addr) (x : Str) : Bool := PySem.W.readsIn K C (.type "type") && decide (PySem.W.specialIn K (.ref C) "__getattribute__" = some (some (.builtin "type.__getattribute__"))) && wrapB K C "staticmethod" "staticmethod.__get__" x && PySem.W.keepIn K (.ref (wf K C "staticmethod" x))
theorem statB_ok {K : PySem.W.Frag} {C : Addr} {x : Str} (h : statB K C x = true) : SMet K C (.type "type") x (ma K C x) (wf K C "staticmethod" x) := by
  unfold statB at h
  simp only [Bool.and_eq_true, decide_eq_true_eq] at h
  obtain ⟨⟨⟨h1, h2⟩, h3⟩, h4⟩ := h
  obtain ⟨a, b⟩ := He5.wrapB_ok h3
  exact ⟨h1, h2, a, b, h4⟩
def defB (P : Pg) (G : Gm) (K : PySem.W.Frag) (f : Nat) : Bool := match P.defs[f]?, G.nms[f]? with
  | some d, some x => (match d.kind, d.cls with
    | .glob, _ => (Fa.glo x).ok K
    | .meth, some c => (Fa.meth (clsN G c) x).ok K && (Fa.cls (clsN G c)).ok K && nmFree G x
    | .init, some c => (Fa.mkr (clsN G c)).ok K && (Fa.glo (clsN G c)).ok K
    | .prop, some c => (Fa.cls (clsN G c)).ok K && propB K (ga K (clsN G c)) x
    | .stat, some c => statB K (ga K (clsN G c)) x && (Fa.glo (clsN G c)).ok K
    | _, _ => false)
  | _, _ => false
def dvOf : D → Option He.Dv
  | .non => some .non
  | .bl b => some (.bl b)
  | .int i => some (.int i)
  | .str s => some (.str (toS s))
  | _ => none
def dvsOf : List D → Option (List He.Dv)
  | [] => some []
  | d :: ds => (dvOf d).bind fun v => (dvsOf ds).map (v :: ·)
def conB (K : PySem.W.Frag) (x : Str) (d : D) : Bool := match d with
  | .int i => (Fa.int x i).ok K
  | .str s => (Fa.str x (toS s)).ok K
  | .tup ds => (Fa.glo x).ok K && (match dvsOf ds with
    | some vs => He.tupB K x vs
    | none => false)
  | _ => false
theorem dv_rep {K : PySem.W.Frag} {d : D} {v : He.Dv} (h : dvOf d = some v) (vw : Vw) : Rep K vw (v.v K) d := by
  cases d <;> simp only [dvOf, Option.some.injEq, reduceCtorEq] at h <;> subst h
  · exact .non
  · exact .bl _
  · exact .int _
  · exact .str _
theorem dvs_rep {K : PySem.W.Frag} (vw : Vw) : ∀ {ds : List D} {vs : List He.Dv}, dvsOf ds = some vs → Reps K vw (vs.map (He.Dv.v K)) ds
  | [], _, h => by
    have h := Option.some.inj h
    subst h
    exact .nil
  | d :: ds, _, h => by
    simp only [dvsOf] at h
    obtain ⟨v, h1, h⟩ := Option.bind_eq_some_iff.mp h
    obtain ⟨vs, h2, h3⟩ := Option.map_eq_some_iff.mp h
    subst h3
    exact .cons (dv_rep h1 vw) (dvs_rep vw h2)
theorem conB_ok {K : PySem.W.Frag} {h : Heap} {mg : Str → Option Value} (X : K.In h) (N : h.Ns mainGlobals mg) {x : Str} {d : D} (c : conB K x d = true) : ∃ u v, mg x = some u ∧ L2.RelV v u ∧ ∀ vw, Rep K vw v d := by
  cases d <;> simp only [conB, Bool.false_eq_true, Bool.and_eq_true] at c
  · obtain ⟨t, e⟩ := He.int_ok X N c
    exact ⟨_, .int _, e, ⟨t, rfl⟩, fun _ => .int _⟩
  · obtain ⟨t, e⟩ := He.str_ok X N c
    exact ⟨_, .str _, e, ⟨t, rfl⟩, fun _ => .str _⟩
  · obtain ⟨c1, c2⟩ := c
    split at c2
    · rename_i vs e
      exact ⟨_, .ref (ga K x), He.glo_ok X N c1, rfl, fun vw => .tup (He.tupB_ok c2 _) (dvs_rep vw e)⟩
    · cases c2
def facB (P : Pg) (G : Gm) (K : PySem.W.Frag) : Bool := (List.range P.defs.length).all (defB P G K) && G.fields.all (fun p => (Fa.cls (clsN G p.1)).ok K && (Fa.noat (clsN G p.1) (G.fn p.2)).ok K) && G.free.all (fun x => (Fa.free x).ok K) &&
  (List.range P.consts.length).all fun g => match G.con[g]?, P.consts[g]? with
    | some x, some d => conB K x d
    | _, _ => false
/-! ### the text -/
def scB (N ps : List Str) (sc : Scope) : Bool := (match sc.kind with
  | .function => true
  | _ => false) && !sc.isCoroutine && !sc.isGenerator && decide N.Nodup && decide (N.take ps.length = ps) && ps.all (fun x => lcl sc x || cll sc x) && sc.names.all fun y => match y.2 with
    | .free => false
    | _ => true
theorem scB_ok {N ps : List Str} {sc : Scope} (h : scB N ps sc = true) : FnScope N ps sc := by
  unfold scB at h
  simp only [Bool.and_eq_true, decide_eq_true_eq, Bool.not_eq_true'] at h
  obtain ⟨⟨⟨⟨⟨⟨h1, h2⟩, h3⟩, h4⟩, h5⟩, h6⟩, h7⟩ := h
  refine ⟨?_, h2, h3, h4, h5, fun x hx => ?_, fun y hy => ?_⟩
  · split at h1
    · assumption
    · cases h1
  · have := List.all_eq_true.mp h6 x hx
    rw [Bool.or_eq_true] at this
    rcases this with q | q
    · exact .inl (lcl_ok q)
    · exact .inr (cll_ok q)
  · have := List.all_eq_true.mp h7 y hy
    intro e
    rw [e] at this
    cases this
def txtB (P : Pg) (G : Gm) (ts : List DefT) : Bool := decide (P.defs.length = ts.length) && decide (G.pss.length = ts.length) && fnmOk G && (List.range ts.length).all fun f => match P.defs[f]?, ts[f]?, G.pss[f]? with
  | some d, some t, some ps => decide (t.ps = ps) && decide (ps.length = d.npar) && scB t.N t.ps (defScope t.st) && defOk P G f d t
  | _, _, _ => false
theorem range_all {n : Nat} {p : Nat → Bool} (h : (List.range n).all p = true) {i : Nat} (hi : i < n) : p i = true := List.all_eq_true.mp h i (List.mem_range.mpr hi)
theorem txtB_at {P : Pg} {G : Gm} {ts : List DefT} (h : txtB P G ts = true) {f : Nat} {d : DefI} (hd : P.defs[f]? = some d) : ∃ t, ts[f]? = some t ∧ G.pss[f]? = some t.ps ∧ t.ps.length = d.npar ∧ scB t.N t.ps (defScope t.st) = true ∧ defOk P G f d t = true := by
  unfold txtB at h
  simp only [Bool.and_eq_true, decide_eq_true_eq] at h
  obtain ⟨⟨⟨h1, _⟩, _⟩, h2⟩ := h
  have hf := (List.getElem?_eq_some_iff.mp hd).1
  have := range_all h2 (i := f) (by omega)
  rw [hd] at this
  split at this
  · rename_i d' t ps e1 e2 e3
    cases e1
    simp only [Bool.and_eq_true, decide_eq_true_eq] at this
    obtain ⟨⟨⟨a, b⟩, c⟩, e⟩ := this
    subst a
    exact ⟨t, e2, e3, b, c, e⟩
  · cases this
/-- how a def takes its values -/
def BindP (t : DefT) : Prop := ∀ (kV doc pm : Value) (an : Option Addr) (cdv ct : Value) (us : List Value), us.length = t.ps.length → bindArgs (PySem.W.fnOf t.x t.qual (defArgs t.st) (defBody t.st) (defScope t.st) .none kV doc pm an cdv ct) ⟨us, []⟩ = pure (t.ps.zip us)
def KwP (t : DefT) (m : Nat) (ks : List Str) (perm : List Nat) : Prop := ∀ (kV doc pm : Value) (an : Option Addr) (cdv ct : Value) (us ws : List Value), us.length = m → ws.length = ks.length → bindArgs (PySem.W.fnOf t.x t.qual (defArgs t.st) (defBody t.st) (defScope t.st) .none kV doc pm an cdv ct) ⟨us, ks.zip ws⟩ = pure (t.ps.zip (permL perm us ws))
theorem vals_perm {vs zs : List V} {us ws : List Value} (a : Vals vs us) (b : Vals zs ws) (perm : List Nat) : Vals (permL perm vs zs) (permL perm us ws) := by
  have ab := a.append b
  unfold permL
  induction perm with
  | nil => exact .nil
  | cons i perm ih =>
    rw [List.filterMap_cons, List.filterMap_cons]
    cases q : (us ++ ws)[i]? with
    | none =>
      have q2 : (vs ++ zs)[i]? = none := by
        cases z : (vs ++ zs)[i]? with
        | none => rfl
        | some v =>
          obtain ⟨d, w, _⟩ := ab.get z
          rw [q] at w; cases w
      rw [q2]; exact ih
    | some d =>
      obtain ⟨v, w, r⟩ := vals_at ab q
      rw [w]
      exact .cons r ih
theorem kb_of {K : PySem.W.Frag} {t : DefT} {kws : List (Str × V)} {f : Addr} {fd : FuncData} {m : Nat} {ks : List Str} {perm : List Nat} (F : FunD K t.x t.qual (defArgs t.st) (defBody t.st) (defScope t.st) [] kws f fd) (h : KwP t m ks perm) : KBn K fd t.ps m ks (permL perm) (permL perm) := by
  obtain ⟨oc, od, dV, kV, doc, pm, an, cdv, ct, osl, rfl, lk, hcd, hD, hK⟩ := F.ex
  rcases hD with ⟨_, rfl⟩ | ⟨e, _⟩
  · exact ⟨fun s us ws _ h1 h2 => .of_eq (h kV doc pm an cdv ct us ws h1 h2), fun r1 r2 => vals_perm r1 r2 perm⟩
  · exact absurd rfl e
/-! ### the Hook -/
def dfA (P : Pg) (G : Gm) (f : Nat) (t : DefT) : He5.DefA := ⟨fun K => adOf P G K f, t.x, t.qual, defArgs t.st, defBody t.st, defScope t.st, [], t.kwd⟩
def dfAs (P : Pg) (G : Gm) : Nat → List DefT → List He5.DefA
  | _, [] => []
  | f, t :: ts => dfA P G f t :: dfAs P G (f + 1) ts
theorem dfAs_at {P : Pg} {G : Gm} : ∀ {ts : List DefT} {k f : Nat} {t : DefT}, ts[f]? = some t → (dfAs P G k ts)[f]? = some (dfA P G (k + f) t)
  | t :: ts, k, 0, u, h => by simp at h; subst h; simp [dfAs]
  | t :: ts, k, f + 1, u, h => by
    have := dfAs_at (P := P) (G := G) (ts := ts) (k := k + 1) (f := f) (t := u) (by simpa using h)
    simp only [dfAs, List.getElem?_cons_succ, this]
    congr 2
    omega
  | [], _, _, _, h => by simp at h
def obsV (ex : PySem.W.Frag → Bool) (fn : List He5.DefA) (K : PySem.W.Frag) : He.AlD := (ex K && fn.all fun d => d.ok K, fn.map fun d => He5.fnA K (d.at_ K))
def SaysV (ex : PySem.W.Frag → Bool) (fn : List He5.DefA) (K : PySem.W.Frag) : Prop := obsV ex fn K = He5.valA fn
def obsVG (n : Nat) (ex : PySem.W.Frag → Bool) (fn : List He5.DefA) (g : Addr → Option Obj) : He.AlD := obsV ex fn (He.frG g (He5.asA g n))
def hookV (n : Nat) (ex : PySem.W.Frag → Bool) (fn : List He5.DefA) : PySem.W.Hook where
  α := He.AlD
  obs := fun s => obsVG n ex fn s.heap.get?
  val := fun _ => He5.valA fn
  says := fun _ h => ∃ K : PySem.W.Frag, K.In h ∧ SaysV ex fn K
  of := fun _ _ e => ⟨_, He.frG_in, e⟩
  keeps := fun _ _ _ ⟨K, hK, c⟩ k => ⟨K, PySem.W.Frag.In.keeps hK k, c⟩
theorem obsVG_eq {n : Nat} {ex : PySem.W.Frag → Bool} {fn : List He5.DefA} {g : Addr → Option Obj} {s : Shared} (h : ∀ a, g a = s.heap.get? a) : obsVG n ex fn g = (hookV n ex fn).obs s := by
  have e : g = s.heap.get? := funext h
  rw [e]; rfl
theorem SaysV.ex {ex : PySem.W.Frag → Bool} {fn : List He5.DefA} {K : PySem.W.Frag} (c : SaysV ex fn K) : ex K = true := (He.ba (show (ex K && fn.all fun d => d.ok K) = true from congrArg (fun z : He.AlD => z.1) c)).1
theorem SaysV.def_ {ex : PySem.W.Frag → Bool} {fn : List He5.DefA} {K : PySem.W.Frag} (c : SaysV ex fn K) {i : Nat} {d : He5.DefA} (h : fn[i]? = some d) : ∃ fd, L2.FunD K d.name d.qual d.params d.body d.scope (d.dvs K) (d.kws K) (d.at_ K) fd := by
  have c2 := (He.ba (show (ex K && fn.all fun d => d.ok K) = true from congrArg (fun z : He.AlD => z.1) c)).2
  have e : fn.map (fun d => He5.fnA K (d.at_ K)) = fn.map He5.DefA.val := congrArg (fun z : He.AlD => z.2) c
  have e2 : (fn.map fun d => He5.fnA K (d.at_ K))[i]? = (fn.map He5.DefA.val)[i]? := by rw [e]
  rw [List.getElem?_map, List.getElem?_map, h] at e2
  exact He5.DefA.funD (Option.some.inj e2) (List.all_eq_true.mp c2 d (List.mem_of_getElem? h))
/-! ### all that the walk leans on -/
structure Given (P : Pg) (G : Gm) (ts : List DefT) : Prop where
  txt : txtB P G ts = true
  bnd : ∀ (f : Nat) (t : DefT), ts[f]? = some t → G.kwo.contains f = false → BindP t
  kwb : ∀ (f m : Nat) (ks : List Str) (perm : List Nat), (f, m, ks, perm) ∈ G.kwc → ∃ t, ts[f]? = some t ∧ KwP t m ks perm
theorem Given.fnm {P : Pg} {G : Gm} {ts : List DefT} (g : Given P G ts) : fnmOk G = true := by
  have h := g.txt
  unfold txtB at h
  simp only [Bool.and_eq_true] at h
  exact h.1.2
theorem clsN_of {G : Gm} {c : Nat} {y : Str} (h : G.cls[c]? = some y) : clsN G c = y := by
  unfold clsN; rw [h]; rfl
theorem all_of {P : Pg} {G : Gm} {ts : List DefT} (g : Given P G ts) {K : PySem.W.Frag} {h : Heap} {mg : Str → Option Value} (X : K.In h) (N : h.Ns mainGlobals mg) (c : SaysV (facB P G) (dfAs P G 0 ts) K) :
    ∃ fdo : Nat → FuncData, Fac P G (nmOf G K g.fnm) K mg (adOf P G K) fdo ∧ TxtOk P G K (adOf P G K) fdo ts := by
  have ht : ∀ (f : Nat) (t : DefT), ts[f]? = some t → ∃ fd, FunD K t.x t.qual (defArgs t.st) (defBody t.st) (defScope t.st) [] (t.kws K) (adOf P G K f) fd := fun f t e => by
    have e2 := dfAs_at (P := P) (G := G) (k := 0) e
    rw [Nat.zero_add] at e2
    exact c.def_ e2
  have hc : ∀ f : Nat, ∃ fd, ∀ t, ts[f]? = some t → FunD K t.x t.qual (defArgs t.st) (defBody t.st) (defScope t.st) [] (t.kws K) (adOf P G K f) fd := fun f => by
    cases e : ts[f]? with
    | none => exact ⟨default, fun t z => nomatch z⟩
    | some t =>
      obtain ⟨fd, F⟩ := ht f t e
      exact ⟨fd, fun t' z => by cases z; exact F⟩
  have hex := c.ex
  unfold facB at hex
  simp only [Bool.and_eq_true] at hex
  obtain ⟨⟨⟨b1, b2⟩, b3⟩, b4⟩ := hex
  have hdef : ∀ (f : Nat) (d : DefI) (x : Str), P.defs[f]? = some d → G.nms[f]? = some x → defB P G K f = true := fun f d x h1 h2 => range_all b1 (List.getElem?_eq_some_iff.mp h1).1
  refine ⟨fun f => (hc f).choose, ?_, ⟨fun f d ps h1 h2 => ?_⟩⟩
  · have hF : ∀ f t, ts[f]? = some t → FunD K t.x t.qual (defArgs t.st) (defBody t.st) (defScope t.st) [] (t.kws K) (adOf P G K f) ((hc f).choose) := fun f => (hc f).choose_spec
    refine ⟨fun f d x h1 h2 hk => ?_, fun f d x cc h1 h2 hk hcc => ?_, fun f d x cc h1 h2 hk hcc => ?_, fun f d x cc y h1 h2 hk hcc hy => ?_, fun f ps m ks perm hm hps => ?_, fun f d cc y h1 hk hcc hy => ?_, fun f ps hps hkw => ?_, fun cc f hm => ?_, fun i => rfl, fun f d ps h1 h2 => ?_, fun x hx => ?_, fun gg x d h1 h2 => ?_⟩
    · have q := hdef f d x h1 h2
      obtain ⟨t, e1, _⟩ := txtB_at g.txt h1
      have kp := (hF f t e1).kp
      unfold defB at q
      rw [h1, h2] at q
      have ea : adOf P G K f = ga K x := by unfold adOf; rw [h1, h2]; simp only [hk]
      rw [ea] at kp ⊢
      simp only [hk] at q
      exact ⟨He.glo_ok X N q, kp⟩
    · have q := hdef f d x h1 h2
      unfold defB at q
      rw [h1, h2] at q
      have ea : adOf P G K f = ma K (ga K (clsN G cc)) x := by unfold adOf; rw [h1, h2]; simp only [hk, hcc]
      rw [ea]
      simp only [hk, hcc, Bool.and_eq_true] at q
      exact ⟨He.meth_ok q.1.1, He.cls_ok q.1.2, fn_ne q.2⟩
    · have q := hdef f d x h1 h2
      unfold defB at q
      rw [h1, h2] at q
      have ea : adOf P G K f = wf K (ga K (clsN G cc)) "property" x := by unfold adOf; rw [h1, h2]; simp only [hk, hcc]
      rw [ea]
      simp only [hk, hcc, Bool.and_eq_true] at q
      exact ⟨He.cls_ok q.1, _, propB_ok q.2⟩
    · have q := hdef f d x h1 h2
      unfold defB at q
      rw [h1, h2] at q
      have ea : adOf P G K f = wf K (ga K (clsN G cc)) "staticmethod" x := by unfold adOf; rw [h1, h2]; simp only [hk, hcc]
      rw [ea]
      simp only [hk, hcc, Bool.and_eq_true] at q
      refine ⟨⟨_, _, statB_ok q.1⟩, ?_⟩
      have := He.glo_ok X N q.2
      rw [clsN_of hy] at this
      show mg y = some (.ref (ga K (clsN G cc)))
      rw [clsN_of hy]; exact this
    · obtain ⟨t, e1, e2⟩ := g.kwb f m ks perm hm
      have F := hF f t e1
      have hb := kb_of F e2
      have ed : ∃ d, P.defs[f]? = some d := by
        have h := g.txt
        unfold txtB at h
        simp only [Bool.and_eq_true, decide_eq_true_eq] at h
        have hlt := (List.getElem?_eq_some_iff.mp e1).1
        exact ⟨P.defs[f]'(by omega), List.getElem?_eq_getElem _⟩
      obtain ⟨d, ed⟩ := ed
      obtain ⟨t', e3, e4, _⟩ := txtB_at g.txt ed
      rw [e1] at e3
      cases e3
      rw [e4] at hps
      cases hps
      exact hb
    · have en : ∃ x, G.nms[f]? = some x := by
        have q := range_all b1 (List.getElem?_eq_some_iff.mp h1).1
        unfold defB at q
        rw [h1] at q
        cases e : G.nms[f]? with
        | none => rw [e] at q; cases q
        | some x => exact ⟨x, rfl⟩
      obtain ⟨x, h2⟩ := en
      have q := hdef f d x h1 h2
      unfold defB at q
      rw [h1, h2] at q
      have ea : adOf P G K f = ma K (ga K (clsN G cc)) "__init__" := by unfold adOf; rw [h1, h2]; simp only [hk, hcc]
      rw [ea]
      simp only [hk, hcc, Bool.and_eq_true] at q
      refine ⟨He.mkr_ok q.1, ?_⟩
      have := He.glo_ok X N q.2
      rw [clsN_of hy] at this
      show mg y = some (.ref (ga K (clsN G cc)))
      rw [clsN_of hy]; exact this
    · have hl : f < ts.length := by
        have h := g.txt
        unfold txtB at h
        simp only [Bool.and_eq_true, decide_eq_true_eq] at h
        have := (List.getElem?_eq_some_iff.mp hps).1
        omega
      have e1 : ts[f]? = some ts[f] := List.getElem?_eq_getElem hl
      have hlen : f < P.defs.length := by
        have h := g.txt
        unfold txtB at h
        simp only [Bool.and_eq_true, decide_eq_true_eq] at h
        omega
      obtain ⟨t', e3, e4, _⟩ := txtB_at g.txt (List.getElem?_eq_getElem hlen)
      rw [hps] at e4
      cases e4
      exact (hF f t' e3).bindsN (g.bnd f t' e3 hkw)
    · have := List.all_eq_true.mp b2 (cc, f) hm
      simp only [Bool.and_eq_true] at this
      exact ⟨He.cls_ok this.1, He.noat_ok this.2⟩
    · obtain ⟨t, e1, e2, e3, _⟩ := txtB_at g.txt h1
      rw [h2] at e2
      cases e2
      exact e3
    · exact He.free_ok X N (List.all_eq_true.mp b3 x hx)
    · have q := range_all b4 (List.getElem?_eq_some_iff.mp h2).1
      rw [h1, h2] at q
      exact conB_ok X N q
  · obtain ⟨t, e1, e2, e3, e4, e5⟩ := txtB_at g.txt h1
    rw [h2] at e2
    cases e2
    exact ⟨t, e1, rfl, e5, scB_ok e4, (hc f).choose_spec t e1⟩
end VI

/-! VI, part P: a law from its plain statement. -/
namespace VI
open PySem PySem.Spec L2 PyProof.Rows
theorem ints_rep {K : PySem.W.Frag} {vw : Vw} : ∀ ns : List Int, Reps K vw (ns.map V.int) (ns.map D.int)
  | [] => .nil
  | i :: ns => .cons (.int i) (ints_rep ns)
theorem FnG.of {P : Program} {w : World} {K : PySem.W.Frag} {mg : Str → Option Value} {base : Heap} {k : Nat} {f : Addr} {fd : FuncData} {ps : List Str} {sp : Sp} (F : FnOk P w K mg base CX0 k f fd ps sp) : FnG P w K mg base k f fd ps sp :=
  ⟨F.len, fun A _ hr l s H e0 args us vs Q E bt rv q => F.run A l s H args us vs Q E hr e0 bt rv q⟩
/-- what the law's def needs: its own promise, wherever no repr is under way -/
theorem walkG {P : Pg} {G : Gm} {ts : List DefT} (g : Given P G ts) {lw n m : Nat} {d : DefI} {x y : Str} (hd : P.defs[lw]? = some d) (hk : d.kind = .glob) (hx : G.nms[lw]? = some x) (hp : G.pss[lw]? = some [y]) (hb : G.kwo.contains lw = false)
    (pure_ : ∀ ns : List Int, ns.length ≤ m → ∃ h', run P n lw [.scr (ns.map D.int)] [] = some (.bl true, h'))
    {Pr : Program} {w : World} {K : PySem.W.Frag} {h : Heap} {mg : Str → Option Value} {fa : Addr} (X : K.In h) (N : h.Ns mainGlobals mg) (c : SaysV (facB P G) (dfAs P G 0 ts) K) (hmg : mg x = some (.ref fa)) :
    ∃ (K : PySem.W.Frag) (fd : FuncData) (sp : Sp), K.In h ∧ (∀ (s : Shared) (u : Value), BindsTo s fd ⟨[u], []⟩ [(y, u)]) ∧
      (∀ (H : Hp) (a : Addr) (ns : List Int), ns.length ≤ m → SqL K H a (ns.map V.int) → sp [.ref a] H (fun v _ => v = .bl true) fun _ _ _ => False) ∧
      ∀ base : Heap, FnG Pr w K mg base (2 * n) fa fd [y] sp := by
  obtain ⟨fdo, F, T⟩ := all_of g X N c
  obtain ⟨t, e1, e2, e3, e4, FD⟩ := T.at_ lw d [y] hd hp
  have ea := (F.glob lw d x hd hx hk).1
  rw [hmg] at ea
  have ea : fa = adOf P G K lw := by
    have := Option.some.inj ea
    exact Value.ref.inj this
  subst ea
  refine ⟨K, fdo lw, spI K (nmOf G K g.fnm) P n lw, X, fun s u => ?_, fun H a ns hl hS => ?_, fun base => ?_⟩
  · have bt := g.bnd lw t e1 hb
    have := FunD.bindsA (ps := t.ps) FD bt s [u] (by rw [e2]; rfl)
    rw [e2] at this
    exact this
  · obtain ⟨h', hr⟩ := pure_ ns hl
    refine ⟨⟨[], H⟩, [], [.scr (ns.map D.int)], .bl true, h', ⟨Ex.rfl, rfl, List.nodup_nil, fun a ha => absurd ha List.not_mem_nil, fun l o a e => by simp at e⟩, .cons (.scr hS (ints_rep ns)) .nil, hr, fun vw' H' v _ _ rv => ?_⟩
    cases rv
    rfl
  · cases hg : G.grd.contains lw with
    | false => exact FnG.of ((fn_both F T n).1 lw d [y] hd hp hg)
    | true => exact (fn_both F T n).2 lw d [y] hd hp hg
/-- the script alone is tracked, as it is -/
def scrH (a : Addr) (vs : List Value) (ns : List Int) : Hp := fun b => if b = a then some (.frz ⟨.type "list", none, .seq vs.toArray 0, #[]⟩ (.lst (ns.map V.int))) else none
section
variable {P : Program} {w : World} {K : PySem.W.Frag} {mg mb : Str → Option Value} {k : Nat} {fa a : Addr} {fd : FuncData} {x : Str} {sp : Sp} {s : Shared} {vs : List Value} {ns : List Int}
/-- the law's call, from an abstract heap H that tracks nothing but a -/
theorem call_at {H : Hp} (KX : K.In s.heap) (hm : s.heap.Ns mainGlobals mg) (hb : s.heap.Ns builtinsNs mb) (hbb : ∀ x : Str, x ≠ "__name__" → mb x = bootBuiltins x) (hlim : s.heap.NoLimit) (hg : s.gens = #[])
    (ha : ∃ oa, s.heap.get? a = some oa ∧ ∀ es ep, oa.data ≠ .dict es ep) (hr : Room k callerA) (F : ∀ base : Heap, FnG P w K mg base k fa fd [x] sp) (bt : ∀ (s : Shared) (u : Value), BindsTo s fd ⟨[u], []⟩ [(x, u)])
    (only : ∀ b u, H b = some u → b = a ∧ K.lookup a = none ∧ ∃ ob zs, u = .frz ob (.lst zs)) (hok : HOk P w H s.heap) (q : sp [.ref a] H (fun v _ => v = .bl true) fun _ _ _ => False) :
    codeAny (model P w) callerA (.call (.ref fa) ⟨[.ref a], []⟩) (fun r s' => r = .ok (.ret (.bool true)) ∧ OldK s.heap s'.heap ∧ s'.os = s.os ∧ AllBare s'.gens) s := by
  obtain ⟨oa, ga, nda⟩ := ha
  have free : ∀ {b : Addr} {o : Obj}, s.heap.get? b = some o → b ≠ a → H b = none := fun {b o} _ ne => by
    cases z : H b with
    | none => rfl
    | some u => exact absurd (only b u z).1 ne
  have into : ∀ {b : Addr} {o : Obj}, s.heap.get? b = some o → H b = none → (hidT s.heap H).get? b = some o := fun e z => hidT_get e z
  have ns1 : ∀ {b : Addr} {m : Str → Option Value}, s.heap.Ns b m → (hidT s.heap H).Ns b m := by
    rintro b m ⟨o, es, ep, e, dd, r⟩
    refine ⟨o, es, ep, into e (free e fun z => ?_), dd, r⟩
    subst z
    rw [ga] at e
    cases e
    exact nda _ _ dd
  have kin : K.In (hidT s.heap H) := fun b o e => into (KX b o e) (by
    cases z : H b with
    | none => rfl
    | some u =>
      obtain ⟨e1, e2, _⟩ := only b u z
      subst e1
      rw [e2] at e
      cases e)
  obtain ⟨mc, l1, l2⟩ := hlim
  have md : Mod K mg (hidT s.heap H) := ⟨kin, ns1 hm, ⟨mb, ns1 hb, hbb⟩, ⟨mc, ns1 l1, l2⟩⟩
  have e0 : Env0 P w K mg (hidT s.heap H) callerA [] s H := ⟨rfl, md, fun b o e => of_hidT e, Nat.le_of_eq (hidT_size _ _), trivial, fun b z => absurd z List.not_mem_nil, hok, .of_eq hg⟩
  refine codeAny_mono ((F _).goes callerA rfl hr [] s H e0 ⟨[.ref a], []⟩ [.ref a] [.ref a] _ _ (bt s (.ref a)) (.cons rfl .nil) q) fun r s' z => ?_
  match r, z with
  | .error _, z => exact z.elim
  | .ok .next, z => exact z.elim
  | .ok .brk, z => exact z.elim
  | .ok .cont, z => exact z.elim
  | .ok (.ret u), ⟨v, H', os, bare, un, hok', rv, ev⟩ =>
    have ev : v = .bl true := ev
    subst ev
    obtain rfl : u = Value.bool true := rv
    refine ⟨rfl, OldK.of_keep fun b o e => ?_, os, bare⟩
    cases z : H b with
    | none => exact un.keep b o e z (fun w => absurd w List.not_mem_nil) List.not_mem_nil
    | some t =>
      obtain ⟨_, _, ob, zs, et⟩ := only b t z
      subst et
      have o1 := (hok b _ z).1
      have o2 := (hok' b _ (un.frzs b ob _ z)).1
      rw [e] at o1
      cases o1
      exact o2
end
/-- a law, from the promise of its def -/
theorem walk_g {l : PySem.W.OpenLaw} {n k : Nat} {q : Program} {loose : List Str} {XP : (Str → Option Value) → Heap → Prop} {YP : World → Heap → Prop} {d : DefRec} {x : Str} (hn : l.most = some n) (hn2 : n ≤ sizeLine) (hdf : d.params.defaults = []) (hr : Room k callerA)
    (F : ∀ (w : World) (mg : Str → Option Value) (fa : Addr) (h : Heap), YP w h → h.Ns mainGlobals mg → mg d.name = some (.ref fa) → ∃ (K : PySem.W.Frag) (fd : FuncData) (sp : Sp), K.In h ∧ (∀ (s : Shared) (u : Value), BindsTo s fd ⟨[u], []⟩ [(x, u)]) ∧
      (∀ (H : Hp) (a : Addr) (ns : List Int), ns.length ≤ n → SqL K H a (ns.map V.int) → sp [.ref a] H (fun v _ => v = .bl true) fun _ _ _ => False) ∧ ∀ base : Heap, FnG l.prog w K mg base k fa fd [x] sp) :
    PySem.W.WalkO q loose XP YP l.row.toRowW d [] (fun f vs => PySem.call f vs) := by
  refine Att.attach_call hn hdf fun w s₀ s mg mb fa o pm cd doc a vs ns G Y ho hd hcd hmg ga hi hl hg => ?_
  obtain ⟨K, fd, sp, KX, bt, hsp, hF⟩ := F w mg fa _ Y G.T.g hmg
  have rv := vals_ints hi
  have ln : ns.length ≤ sizeLine := Nat.le_trans hl hn2
  have noD : ∀ es ep, ({ cls := .type "list", data := .seq vs.toArray } : Obj).data ≠ .dict es ep := fun es ep z => by cases z
  cases lk : K.lookup a with
  | some oa =>
    have e := KX a oa lk
    rw [ga] at e
    cases e
    refine call_at (H := fun _ => none) KX G.T.g G.T.b G.T.builtins G.T.nolimit hg ⟨_, ga, noD⟩ hr hF bt (fun b u z => by cases z) (fun b u z => by cases z) (hsp _ a ns hl (.inr ⟨_, vs.toArray, _, lk, rfl, rfl, rfl, ?_, by simpa using rv⟩))
    rw [List.size_toArray, hi.length]; exact ln
  | none =>
    have at_a : scrH a vs ns a = some (.frz ⟨.type "list", none, .seq vs.toArray 0, #[]⟩ (.lst (ns.map V.int))) := if_pos rfl
    refine call_at (H := scrH a vs ns) KX G.T.g G.T.b G.T.builtins G.T.nolimit hg ⟨_, ga, noD⟩ hr hF bt (fun b u z => ?_) (fun b u z => ?_) (hsp _ a ns hl (.inl (.inr ⟨_, at_a⟩)))
    · by_cases eb : b = a
      · subst eb
        rw [at_a] at z
        cases z
        exact ⟨rfl, lk, _, _, rfl⟩
      · rw [show scrH a vs ns b = none from if_neg eb] at z
        cases z
    · by_cases eb : b = a
      · subst eb
        rw [at_a] at z
        cases z
        exact ⟨ga, by rw [List.length_map]; exact ln, vs, _, rv, ga⟩
      · rw [show scrH a vs ns b = none from if_neg eb] at z
        cases z
end VI

-- 43 defs
namespace W
open PySem VI
def top (i : Nat) : Stmt := PySem.Challenge.pw_everyworld_k05_whole_needs_and_uses.main.body.getD i (.Pass ⟨0, 0, 0, 0⟩)
def cdef (i k : Nat) : Stmt := match top i with
  | .ClassDef _ _ _ b _ _ _ _ _ _ _ => b.getD k (.Pass ⟨0, 0, 0, 0⟩)
  | s => s
def Gr : Gm where
  nms := [Str.ofString "letters_of", Str.ofString "__init__", Str.ofString "comes", Str.ofString "take", Str.ofString "fail", Str.ofString "read_sum", Str.ofString "read_product", Str.ofString "read_factor", Str.ofString "read_number", Str.ofString "read_rule", Str.ofString "worth", Str.ofString "is_integer", Str.ofString "is_between", Str.ofString "is_name", Str.ofString "are_feeds", Str.ofString "is_task", Str.ofString "is_graph", Str.ofString "__init__", Str.ofString "__contains__", Str.ofString "place", Str.ofString "size", Str.ofString "feeds", Str.ofString "rounds", Str.ofString "has_values", Str.ofString "led_on", Str.ofString "names", Str.ofString "state", Str.ofString "run", Str.ofString "results", Str.ofString "needs", Str.ofString "uses", Str.ofString "_law_pot", Str.ofString "_law_take", Str.ofString "_law_of", Str.ofString "_law_factor", Str.ofString "_law_product", Str.ofString "_law_sum", Str.ofString "_law_rule", Str.ofString "_law_names", Str.ofString "_law_tasks", Str.ofString "law", Str.ofString "_law_is_right", Str.ofString "_law_needed"]
  pss := [[Str.ofString "many"], [Str.ofString "self", Str.ofString "line", Str.ofString "letters"], [Str.ofString "self", Str.ofString "signs"], [Str.ofString "self"], [Str.ofString "self"], [Str.ofString "self"], [Str.ofString "self"], [Str.ofString "self"], [Str.ofString "self"], [Str.ofString "value", Str.ofString "letters"], [Str.ofString "tree", Str.ofString "names"], [Str.ofString "value"], [Str.ofString "value", Str.ofString "low", Str.ofString "high"], [Str.ofString "value"], [Str.ofString "value", Str.ofString "earlier"], [Str.ofString "value", Str.ofString "earlier"], [Str.ofString "value"], [Str.ofString "self", Str.ofString "tasks"], [Str.ofString "self", Str.ofString "value"], [Str.ofString "self", Str.ofString "name"], [Str.ofString "self", Str.ofString "name"], [Str.ofString "self", Str.ofString "name"], [Str.ofString "self", Str.ofString "name"], [Str.ofString "self", Str.ofString "name", Str.ofString "values"], [Str.ofString "self", Str.ofString "name", Str.ofString "values", Str.ofString "state", Str.ofString "count"], [Str.ofString "self"], [Str.ofString "self", Str.ofString "name", Str.ofString "values", Str.ofString "count"], [Str.ofString "self", Str.ofString "name", Str.ofString "values"], [Str.ofString "self"], [Str.ofString "self", Str.ofString "name"], [Str.ofString "self", Str.ofString "name"], [Str.ofString "_law_script", Str.ofString "_law_k"], [Str.ofString "_law_pot_here", Str.ofString "_law_upto"], [Str.ofString "_law_pot_here", Str.ofString "_law_some"], [Str.ofString "_law_pot_here", Str.ofString "_law_letters", Str.ofString "_law_deep"], [Str.ofString "_law_pot_here", Str.ofString "_law_letters", Str.ofString "_law_deep"], [Str.ofString "_law_pot_here", Str.ofString "_law_letters", Str.ofString "_law_deep"], [Str.ofString "_law_pot_here", Str.ofString "_law_many", Str.ofString "_law_deep"], [Str.ofString "_law_pot_here", Str.ofString "_law_many"], [Str.ofString "_law_pot_here", Str.ofString "_law_many", Str.ofString "_law_most", Str.ofString "_law_deep"], [Str.ofString "_law_script"], [Str.ofString "_law_pot_here"], [Str.ofString "_law_tasks_here", Str.ofString "_law_title"]]
  kwo := []
  con := [Str.ofString "STATE", Str.ofString "FEED_LETTERS", Str.ofString "LONGEST_RULE", Str.ofString "MOST_OPEN", Str.ofString "MOST_DIGITS", Str.ofString "DIGITS", Str.ofString "NUMBER", Str.ofString "LETTER", Str.ofString "NOUGHT", Str.ofString "LETTERS", Str.ofString "LONGEST_NAME", Str.ofString "PARTS", Str.ofString "MOST_TASKS", Str.ofString "LEAST_SIZE", Str.ofString "MOST_SIZE", Str.ofString "MOST_FEEDS", Str.ofString "MOST_ROUNDS"]
  cls := [Str.ofString "RuleReader", Str.ofString "Graph"]
  fields := [(0, 0), (0, 1), (0, 2), (0, 3), (0, 4), (1, 5), (1, 6), (1, 7)]
  fnames := [Str.ofString "line_read", Str.ofString "known_letters", Str.ofString "spot", Str.ofString "open_now", Str.ofString "has_failed", Str.ofString "row_of_tasks", Str.ofString "place_by_name", Str.ofString "trees"]
  free := [Str.ofString "len", Str.ofString "int", Str.ofString "isinstance", Str.ofString "str", Str.ofString "bool", Str.ofString "all", Str.ofString "tuple", Str.ofString "enumerate", Str.ofString "zip", Str.ofString "range", Str.ofString "dict", Str.ofString "any", Str.ofString "abs", Str.ofString "min", Str.ofString "max", Str.ofString "repr", Str.ofString "list"]
  grd := [40, 41]
  kwc := [(30, 1, [Str.ofString "name"], [0, 1]), (29, 1, [Str.ofString "name"], [0, 1])]
def t0 : DefT := ⟨(Str.ofString "letters_of"), (Str.ofString "letters_of"), top 16, [Str.ofString "many"], [Str.ofString "many"], []⟩
def t1 : DefT := ⟨(Str.ofString "__init__"), (Str.ofString "RuleReader.__init__"), cdef 17 0, [Str.ofString "self", Str.ofString "line", Str.ofString "letters"], [Str.ofString "self", Str.ofString "line", Str.ofString "letters"], []⟩
def t2 : DefT := ⟨(Str.ofString "comes"), (Str.ofString "RuleReader.comes"), cdef 17 1, [Str.ofString "self", Str.ofString "signs"], [Str.ofString "self", Str.ofString "signs"], []⟩
def t3 : DefT := ⟨(Str.ofString "take"), (Str.ofString "RuleReader.take"), cdef 17 2, [Str.ofString "self"], [Str.ofString "self"], []⟩
def t4 : DefT := ⟨(Str.ofString "fail"), (Str.ofString "RuleReader.fail"), cdef 17 3, [Str.ofString "self"], [Str.ofString "self"], []⟩
def t5 : DefT := ⟨(Str.ofString "read_sum"), (Str.ofString "RuleReader.read_sum"), cdef 17 4, [Str.ofString "self", Str.ofString "tree", Str.ofString "sign"], [Str.ofString "self"], []⟩
def t6 : DefT := ⟨(Str.ofString "read_product"), (Str.ofString "RuleReader.read_product"), cdef 17 5, [Str.ofString "self", Str.ofString "tree", Str.ofString "sign"], [Str.ofString "self"], []⟩
def t7 : DefT := ⟨(Str.ofString "read_factor"), (Str.ofString "RuleReader.read_factor"), cdef 17 6, [Str.ofString "self", Str.ofString "tree"], [Str.ofString "self"], []⟩
def t8 : DefT := ⟨(Str.ofString "read_number"), (Str.ofString "RuleReader.read_number"), cdef 17 7, [Str.ofString "self", Str.ofString "word"], [Str.ofString "self"], []⟩
def t9 : DefT := ⟨(Str.ofString "read_rule"), (Str.ofString "read_rule"), top 18, [Str.ofString "value", Str.ofString "letters", Str.ofString "reader", Str.ofString "tree"], [Str.ofString "value", Str.ofString "letters"], []⟩
def t10 : DefT := ⟨(Str.ofString "worth"), (Str.ofString "worth"), top 19, [Str.ofString "tree", Str.ofString "names", Str.ofString "word", Str.ofString "one", Str.ofString "other"], [Str.ofString "tree", Str.ofString "names"], []⟩
def t11 : DefT := ⟨(Str.ofString "is_integer"), (Str.ofString "is_integer"), top 23, [Str.ofString "value"], [Str.ofString "value"], []⟩
def t12 : DefT := ⟨(Str.ofString "is_between"), (Str.ofString "is_between"), top 24, [Str.ofString "value", Str.ofString "low", Str.ofString "high"], [Str.ofString "value", Str.ofString "low", Str.ofString "high"], []⟩
def t13 : DefT := ⟨(Str.ofString "is_name"), (Str.ofString "is_name"), top 25, [Str.ofString "value", Str.ofString "sign"], [Str.ofString "value"], []⟩
def t14 : DefT := ⟨(Str.ofString "are_feeds"), (Str.ofString "are_feeds"), top 33, [Str.ofString "value", Str.ofString "earlier", Str.ofString "name"], [Str.ofString "value", Str.ofString "earlier"], []⟩
def t15 : DefT := ⟨(Str.ofString "is_task"), (Str.ofString "is_task"), top 34, [Str.ofString "value", Str.ofString "earlier", Str.ofString "name", Str.ofString "size", Str.ofString "feeds", Str.ofString "rounds", Str.ofString "rule"], [Str.ofString "value", Str.ofString "earlier"], []⟩
def t16 : DefT := ⟨(Str.ofString "is_graph"), (Str.ofString "is_graph"), top 35, [Str.ofString "value", Str.ofString "earlier", Str.ofString "task"], [Str.ofString "value"], []⟩
def t17 : DefT := ⟨(Str.ofString "__init__"), (Str.ofString "Graph.__init__"), cdef 36 0, [Str.ofString "self", Str.ofString "tasks", Str.ofString "place", Str.ofString "task"], [Str.ofString "self", Str.ofString "tasks"], []⟩
def t18 : DefT := ⟨(Str.ofString "__contains__"), (Str.ofString "Graph.__contains__"), cdef 36 3, [Str.ofString "self", Str.ofString "value"], [Str.ofString "self", Str.ofString "value"], []⟩
def t19 : DefT := ⟨(Str.ofString "place"), (Str.ofString "Graph.place"), cdef 36 6, [Str.ofString "self", Str.ofString "name"], [Str.ofString "self", Str.ofString "name"], []⟩
def t20 : DefT := ⟨(Str.ofString "size"), (Str.ofString "Graph.size"), cdef 36 7, [Str.ofString "self", Str.ofString "name"], [Str.ofString "self", Str.ofString "name"], []⟩
def t21 : DefT := ⟨(Str.ofString "feeds"), (Str.ofString "Graph.feeds"), cdef 36 8, [Str.ofString "self", Str.ofString "name"], [Str.ofString "self", Str.ofString "name"], []⟩
def t22 : DefT := ⟨(Str.ofString "rounds"), (Str.ofString "Graph.rounds"), cdef 36 9, [Str.ofString "self", Str.ofString "name"], [Str.ofString "self", Str.ofString "name"], []⟩
def t23 : DefT := ⟨(Str.ofString "has_values"), (Str.ofString "Graph.has_values"), cdef 36 12, [Str.ofString "self", Str.ofString "name", Str.ofString "values", Str.ofString "sizes", Str.ofString "feed", Str.ofString "value", Str.ofString "size"], [Str.ofString "self", Str.ofString "name", Str.ofString "values"], []⟩
def t24 : DefT := ⟨(Str.ofString "led_on"), (Str.ofString "Graph.led_on"), cdef 36 13, [Str.ofString "self", Str.ofString "name", Str.ofString "values", Str.ofString "state", Str.ofString "count", Str.ofString "turn", Str.ofString "tree", Str.ofString "names"], [Str.ofString "self", Str.ofString "name", Str.ofString "values", Str.ofString "state", Str.ofString "count"], []⟩
def t25 : DefT := ⟨(Str.ofString "names"), (Str.ofString "Graph.names"), cdef 36 5, [Str.ofString "self", Str.ofString "task"], [Str.ofString "self"], []⟩
def t26 : DefT := ⟨(Str.ofString "state"), (Str.ofString "Graph.state"), cdef 36 14, [Str.ofString "self", Str.ofString "name", Str.ofString "values", Str.ofString "count"], [Str.ofString "self", Str.ofString "name", Str.ofString "values", Str.ofString "count"], []⟩
def t27 : DefT := ⟨(Str.ofString "run"), (Str.ofString "Graph.run"), cdef 36 15, [Str.ofString "self", Str.ofString "name", Str.ofString "values"], [Str.ofString "self", Str.ofString "name", Str.ofString "values"], []⟩
def t28 : DefT := ⟨(Str.ofString "results"), (Str.ofString "Graph.results"), cdef 36 16, [Str.ofString "self", Str.ofString "found", Str.ofString "name", Str.ofString "size", Str.ofString "feeds", Str.ofString "rounds", Str.ofString "rule", Str.ofString "feed"], [Str.ofString "self"], []⟩
def t29 : DefT := ⟨(Str.ofString "needs"), (Str.ofString "Graph.needs"), cdef 36 10, [Str.ofString "self", Str.ofString "name", Str.ofString "at", Str.ofString "place", Str.ofString "found", Str.ofString "task", Str.ofString "one", Str.ofString "feed"], [Str.ofString "self", Str.ofString "name"], []⟩
def t30 : DefT := ⟨(Str.ofString "uses"), (Str.ofString "Graph.uses"), cdef 36 11, [Str.ofString "self", Str.ofString "name", Str.ofString "task", Str.ofString "place", Str.ofString "found", Str.ofString "one", Str.ofString "feed"], [Str.ofString "self", Str.ofString "name"], []⟩
def t31 : DefT := ⟨(Str.ofString "_law_pot"), (Str.ofString "_law_pot"), top 38, [Str.ofString "_law_script", Str.ofString "_law_k", Str.ofString "_law_cell", Str.ofString "_law_own"], [Str.ofString "_law_script", Str.ofString "_law_k"], []⟩
def t32 : DefT := ⟨(Str.ofString "_law_take"), (Str.ofString "_law_take"), top 39, [Str.ofString "_law_pot_here", Str.ofString "_law_upto", Str.ofString "_law_prime", Str.ofString "_law_mixed", Str.ofString "_law_digit"], [Str.ofString "_law_pot_here", Str.ofString "_law_upto"], []⟩
def t33 : DefT := ⟨(Str.ofString "_law_of"), (Str.ofString "_law_of"), top 40, [Str.ofString "_law_pot_here", Str.ofString "_law_some"], [Str.ofString "_law_pot_here", Str.ofString "_law_some"], []⟩
def t34 : DefT := ⟨(Str.ofString "_law_factor"), (Str.ofString "_law_factor"), top 41, [Str.ofString "_law_pot_here", Str.ofString "_law_letters", Str.ofString "_law_deep", Str.ofString "_law_way"], [Str.ofString "_law_pot_here", Str.ofString "_law_letters", Str.ofString "_law_deep"], []⟩
def t35 : DefT := ⟨(Str.ofString "_law_product"), (Str.ofString "_law_product"), top 42, [Str.ofString "_law_pot_here", Str.ofString "_law_letters", Str.ofString "_law_deep", Str.ofString "_law_turn"], [Str.ofString "_law_pot_here", Str.ofString "_law_letters", Str.ofString "_law_deep"], []⟩
def t36 : DefT := ⟨(Str.ofString "_law_sum"), (Str.ofString "_law_sum"), top 43, [Str.ofString "_law_pot_here", Str.ofString "_law_letters", Str.ofString "_law_deep", Str.ofString "_law_found", Str.ofString "_law_turn"], [Str.ofString "_law_pot_here", Str.ofString "_law_letters", Str.ofString "_law_deep"], []⟩
def t37 : DefT := ⟨(Str.ofString "_law_rule"), (Str.ofString "_law_rule"), top 44, [Str.ofString "_law_pot_here", Str.ofString "_law_many", Str.ofString "_law_deep", Str.ofString "_law_letters", Str.ofString "_law_found"], [Str.ofString "_law_pot_here", Str.ofString "_law_many", Str.ofString "_law_deep"], []⟩
def t38 : DefT := ⟨(Str.ofString "_law_names"), (Str.ofString "_law_names"), top 45, [Str.ofString "_law_pot_here", Str.ofString "_law_many", Str.ofString "_law_stem", Str.ofString "_law_letters", Str.ofString "_law_size", Str.ofString "_law_at", Str.ofString "_law_first", Str.ofString "_law_k", Str.ofString "_law_turn"], [Str.ofString "_law_pot_here", Str.ofString "_law_many"], []⟩
def t39 : DefT := ⟨(Str.ofString "_law_tasks"), (Str.ofString "_law_tasks"), top 46, [Str.ofString "_law_pot_here", Str.ofString "_law_many", Str.ofString "_law_most", Str.ofString "_law_deep", Str.ofString "_law_names_here", Str.ofString "_law_found", Str.ofString "_law_k", Str.ofString "_law_title", Str.ofString "_law_turn", Str.ofString "_law_rounds", Str.ofString "_law_earlier", Str.ofString "_law_feeds"], [Str.ofString "_law_pot_here", Str.ofString "_law_many", Str.ofString "_law_most", Str.ofString "_law_deep"], []⟩
def t40 : DefT := ⟨(Str.ofString "law"), (Str.ofString "law"), top 49, [Str.ofString "_law_script", Str.ofString "_law_k", Str.ofString "_law_pot_here", Str.ofString "_law_turn"], [Str.ofString "_law_script"], []⟩
def t41 : DefT := ⟨(Str.ofString "_law_is_right"), (Str.ofString "_law_is_right"), top 48, [Str.ofString "_law_pot_here", Str.ofString "_law_tasks_here", Str.ofString "_law_needs", Str.ofString "_law_title", Str.ofString "_law_graph", Str.ofString "_law_names_here", Str.ofString "_law_uses", Str.ofString "_law_task", Str.ofString "_law_one"], [Str.ofString "_law_pot_here"], []⟩
def t42 : DefT := ⟨(Str.ofString "_law_needed"), (Str.ofString "_law_needed"), top 47, [Str.ofString "_law_tasks_here", Str.ofString "_law_title", Str.ofString "_law_feeds", Str.ofString "_law_found", Str.ofString "_law_left", Str.ofString "_law_one", Str.ofString "_law_task"], [Str.ofString "_law_tasks_here", Str.ofString "_law_title"], []⟩
def ts : List DefT := [t0, t1, t2, t3, t4, t5, t6, t7, t8, t9, t10, t11, t12, t13, t14, t15, t16, t17, t18, t19, t20, t21, t22, t23, t24, t25, t26, t27, t28, t29, t30, t31, t32, t33, t34, t35, t36, t37, t38, t39, t40, t41, t42]
theorem bn0 : BindP t0 := fun _ _ _ _ _ _ us hl => match us, hl with
  | [_], _ => by kernel_rfl
theorem bn1 : BindP t1 := fun _ _ _ _ _ _ us hl => match us, hl with
  | [_, _, _], _ => by kernel_rfl
theorem bn2 : BindP t2 := fun _ _ _ _ _ _ us hl => match us, hl with
  | [_, _], _ => by kernel_rfl
theorem bn3 : BindP t3 := fun _ _ _ _ _ _ us hl => match us, hl with
  | [_], _ => by kernel_rfl
theorem bn4 : BindP t4 := fun _ _ _ _ _ _ us hl => match us, hl with
  | [_], _ => by kernel_rfl
theorem bn5 : BindP t5 := fun _ _ _ _ _ _ us hl => match us, hl with
  | [_], _ => by kernel_rfl
theorem bn6 : BindP t6 := fun _ _ _ _ _ _ us hl => match us, hl with
  | [_], _ => by kernel_rfl
theorem bn7 : BindP t7 := fun _ _ _ _ _ _ us hl => match us, hl with
  | [_], _ => by kernel_rfl
theorem bn8 : BindP t8 := fun _ _ _ _ _ _ us hl => match us, hl with
  | [_], _ => by kernel_rfl
theorem bn9 : BindP t9 := fun _ _ _ _ _ _ us hl => match us, hl with
  | [_, _], _ => by kernel_rfl
theorem bn10 : BindP t10 := fun _ _ _ _ _ _ us hl => match us, hl with
  | [_, _], _ => by kernel_rfl
theorem bn11 : BindP t11 := fun _ _ _ _ _ _ us hl => match us, hl with
  | [_], _ => by kernel_rfl
theorem bn12 : BindP t12 := fun _ _ _ _ _ _ us hl => match us, hl with
  | [_, _, _], _ => by kernel_rfl
theorem bn13 : BindP t13 := fun _ _ _ _ _ _ us hl => match us, hl with
  | [_], _ => by kernel_rfl
theorem bn14 : BindP t14 := fun _ _ _ _ _ _ us hl => match us, hl with
  | [_, _], _ => by kernel_rfl
theorem bn15 : BindP t15 := fun _ _ _ _ _ _ us hl => match us, hl with
  | [_, _], _ => by kernel_rfl
theorem bn16 : BindP t16 := fun _ _ _ _ _ _ us hl => match us, hl with
  | [_], _ => by kernel_rfl
theorem bn17 : BindP t17 := fun _ _ _ _ _ _ us hl => match us, hl with
  | [_, _], _ => by kernel_rfl
theorem bn18 : BindP t18 := fun _ _ _ _ _ _ us hl => match us, hl with
  | [_, _], _ => by kernel_rfl
theorem bn19 : BindP t19 := fun _ _ _ _ _ _ us hl => match us, hl with
  | [_, _], _ => by kernel_rfl
theorem bn20 : BindP t20 := fun _ _ _ _ _ _ us hl => match us, hl with
  | [_, _], _ => by kernel_rfl
theorem bn21 : BindP t21 := fun _ _ _ _ _ _ us hl => match us, hl with
  | [_, _], _ => by kernel_rfl
theorem bn22 : BindP t22 := fun _ _ _ _ _ _ us hl => match us, hl with
  | [_, _], _ => by kernel_rfl
theorem bn23 : BindP t23 := fun _ _ _ _ _ _ us hl => match us, hl with
  | [_, _, _], _ => by kernel_rfl
theorem bn24 : BindP t24 := fun _ _ _ _ _ _ us hl => match us, hl with
  | [_, _, _, _, _], _ => by kernel_rfl
theorem bn25 : BindP t25 := fun _ _ _ _ _ _ us hl => match us, hl with
  | [_], _ => by kernel_rfl
theorem bn26 : BindP t26 := fun _ _ _ _ _ _ us hl => match us, hl with
  | [_, _, _, _], _ => by kernel_rfl
theorem bn27 : BindP t27 := fun _ _ _ _ _ _ us hl => match us, hl with
  | [_, _, _], _ => by kernel_rfl
theorem bn28 : BindP t28 := fun _ _ _ _ _ _ us hl => match us, hl with
  | [_], _ => by kernel_rfl
theorem bn29 : BindP t29 := fun _ _ _ _ _ _ us hl => match us, hl with
  | [_, _], _ => by kernel_rfl
theorem bn30 : BindP t30 := fun _ _ _ _ _ _ us hl => match us, hl with
  | [_, _], _ => by kernel_rfl
theorem bn31 : BindP t31 := fun _ _ _ _ _ _ us hl => match us, hl with
  | [_, _], _ => by kernel_rfl
theorem bn32 : BindP t32 := fun _ _ _ _ _ _ us hl => match us, hl with
  | [_, _], _ => by kernel_rfl
theorem bn33 : BindP t33 := fun _ _ _ _ _ _ us hl => match us, hl with
  | [_, _], _ => by kernel_rfl
theorem bn34 : BindP t34 := fun _ _ _ _ _ _ us hl => match us, hl with
  | [_, _, _], _ => by kernel_rfl
theorem bn35 : BindP t35 := fun _ _ _ _ _ _ us hl => match us, hl with
  | [_, _, _], _ => by kernel_rfl
theorem bn36 : BindP t36 := fun _ _ _ _ _ _ us hl => match us, hl with
  | [_, _, _], _ => by kernel_rfl
theorem bn37 : BindP t37 := fun _ _ _ _ _ _ us hl => match us, hl with
  | [_, _, _], _ => by kernel_rfl
theorem bn38 : BindP t38 := fun _ _ _ _ _ _ us hl => match us, hl with
  | [_, _], _ => by kernel_rfl
theorem bn39 : BindP t39 := fun _ _ _ _ _ _ us hl => match us, hl with
  | [_, _, _, _], _ => by kernel_rfl
theorem bn40 : BindP t40 := fun _ _ _ _ _ _ us hl => match us, hl with
  | [_], _ => by kernel_rfl
theorem bn41 : BindP t41 := fun _ _ _ _ _ _ us hl => match us, hl with
  | [_], _ => by kernel_rfl
theorem bn42 : BindP t42 := fun _ _ _ _ _ _ us hl => match us, hl with
  | [_, _], _ => by kernel_rfl
theorem kw0 : KwP t30 1 [Str.ofString "name"] [0, 1] := fun _ _ _ _ _ _ us ws h1 h2 => match us, ws, h1, h2 with
  | [_], [_], _, _ => by kernel_rfl
theorem kw1 : KwP t29 1 [Str.ofString "name"] [0, 1] := fun _ _ _ _ _ _ us ws h1 h2 => match us, ws, h1, h2 with
  | [_], [_], _, _ => by kernel_rfl
theorem txt : txtB Pr Gr ts = true := by kernel_rfl
theorem bnds : ∀ (f : Nat) (t : DefT), ts[f]? = some t → Gr.kwo.contains f = false → BindP t
  | 0, t, h, _ => by cases h; exact bn0
  | 1, t, h, _ => by cases h; exact bn1
  | 2, t, h, _ => by cases h; exact bn2
  | 3, t, h, _ => by cases h; exact bn3
  | 4, t, h, _ => by cases h; exact bn4
  | 5, t, h, _ => by cases h; exact bn5
  | 6, t, h, _ => by cases h; exact bn6
  | 7, t, h, _ => by cases h; exact bn7
  | 8, t, h, _ => by cases h; exact bn8
  | 9, t, h, _ => by cases h; exact bn9
  | 10, t, h, _ => by cases h; exact bn10
  | 11, t, h, _ => by cases h; exact bn11
  | 12, t, h, _ => by cases h; exact bn12
  | 13, t, h, _ => by cases h; exact bn13
  | 14, t, h, _ => by cases h; exact bn14
  | 15, t, h, _ => by cases h; exact bn15
  | 16, t, h, _ => by cases h; exact bn16
  | 17, t, h, _ => by cases h; exact bn17
  | 18, t, h, _ => by cases h; exact bn18
  | 19, t, h, _ => by cases h; exact bn19
  | 20, t, h, _ => by cases h; exact bn20
  | 21, t, h, _ => by cases h; exact bn21
  | 22, t, h, _ => by cases h; exact bn22
  | 23, t, h, _ => by cases h; exact bn23
  | 24, t, h, _ => by cases h; exact bn24
  | 25, t, h, _ => by cases h; exact bn25
  | 26, t, h, _ => by cases h; exact bn26
  | 27, t, h, _ => by cases h; exact bn27
  | 28, t, h, _ => by cases h; exact bn28
  | 29, t, h, _ => by cases h; exact bn29
  | 30, t, h, _ => by cases h; exact bn30
  | 31, t, h, _ => by cases h; exact bn31
  | 32, t, h, _ => by cases h; exact bn32
  | 33, t, h, _ => by cases h; exact bn33
  | 34, t, h, _ => by cases h; exact bn34
  | 35, t, h, _ => by cases h; exact bn35
  | 36, t, h, _ => by cases h; exact bn36
  | 37, t, h, _ => by cases h; exact bn37
  | 38, t, h, _ => by cases h; exact bn38
  | 39, t, h, _ => by cases h; exact bn39
  | 40, t, h, _ => by cases h; exact bn40
  | 41, t, h, _ => by cases h; exact bn41
  | 42, t, h, _ => by cases h; exact bn42
  | n + 43, t, h, _ => nomatch h
theorem kwbs : ∀ (f m : Nat) (ks : List Str) (perm : List Nat), (f, m, ks, perm) ∈ Gr.kwc → ∃ t, ts[f]? = some t ∧ KwP t m ks perm := by
  intro f m ks perm h
  simp only [Gr, List.mem_cons, Prod.mk.injEq, List.not_mem_nil, or_false] at h
  rcases h with ⟨rfl, rfl, rfl, rfl⟩ | ⟨rfl, rfl, rfl, rfl⟩
  · exact ⟨t30, rfl, kw0⟩
  · exact ⟨t29, rfl, kw1⟩
theorem given : Given Pr Gr ts := ⟨txt, bnds, kwbs⟩
end W

namespace W
open PySem PySem.Spec PyProof.Rows L2 VI
abbrev R : PySem.W.OpenRow := PySem.W.OpenLaw.row PySem.Challenge.rw_everyworld_k05_whole_needs_and_uses
def names_0 : List PySem.Str := [Str.ofString "WorldError", Str.ofString "BadGraph", Str.ofString "NoTask", Str.ofString "BadValues", Str.ofString "BadCount", Str.ofString "LONGEST_RULE", Str.ofString "MOST_OPEN", Str.ofString "MOST_DIGITS", Str.ofString "DIGITS", Str.ofString "FEED_LETTERS", Str.ofString "STATE", Str.ofString "NUMBER", Str.ofString "LETTER", Str.ofString "NOUGHT", Str.ofString "letters_of", Str.ofString "RuleReader", Str.ofString "read_rule", Str.ofString "worth", Str.ofString "LETTERS", Str.ofString "LONGEST_NAME"]
def names_20 : List PySem.Str := [Str.ofString "is_integer", Str.ofString "is_between", Str.ofString "is_name", Str.ofString "PARTS", Str.ofString "MOST_TASKS", Str.ofString "LEAST_SIZE", Str.ofString "MOST_SIZE", Str.ofString "MOST_FEEDS", Str.ofString "MOST_ROUNDS", Str.ofString "are_feeds", Str.ofString "is_task", Str.ofString "is_graph", Str.ofString "Graph", Str.ofString "_law_pot", Str.ofString "_law_take", Str.ofString "_law_of", Str.ofString "_law_factor", Str.ofString "_law_product", Str.ofString "_law_sum", Str.ofString "_law_rule"]
def names_40 : List PySem.Str := [Str.ofString "_law_names", Str.ofString "_law_tasks", Str.ofString "_law_needed", Str.ofString "_law_is_right"]
def names : List PySem.Str := names_0 ++ names_20 ++ names_40
abbrev hk : PySem.W.Hook := hookV 6 (facB Pr Gr) (dfAs Pr Gr 0 ts)
def ob (s : PySem.W.SharedT) : He.AlD := obsVG 6 (facB Pr Gr) (dfAs Pr Gr 0 ts) (HandSHeadRun.getT s)
theorem ob_eq (s : PySem.W.SharedT) : ob s = hk.obs s.abs := obsVG_eq (HandSHeadRun.getT_eq s)
theorem runs (w : World) : HandSHeadRun.RunEq R (PySem.W.view R.prog [49]) hk ob 6000 names w := by
  intro os
  kernel_rfl
end W

open PySem PySem.W PySem.Calls PyProof.Rows
theorem PySem.Challenge.cw_everyworld_k05_whole_needs_and_uses_holds : PySem.Challenge.rw_everyworld_k05_whole_needs_and_uses.Holds := by
  w_on; o_law
  refine HandSHeadRun.head_any (r := OpenLaw.row PySem.Challenge.rw_everyworld_k05_whole_needs_and_uses) (q := view (OpenLaw.row PySem.Challenge.rw_everyworld_k05_whole_needs_and_uses).prog [49]) (H := W.hk) (ob := W.ob) (M := 6000) (loose := W.names) (d := HandSHeadRun.topDef (OpenLaw.row PySem.Challenge.rw_everyworld_k05_whole_needs_and_uses).prog 49) (kwd := []) W.ob_eq
    (by kernel_rfl) (fun s => by kernel_rfl) W.runs (by kernel_rfl) (by kernel_rfl) (by kernel_rfl) (by rfl) (by first | assumption | decide +kernel) (by decide +kernel) ⟨rfl, rfl, rfl, rfl, rfl, by decide +kernel⟩ ?hw ?hc
  case hw => w_witness2
  case hc =>
    refine VI.walk_g (l := PySem.Challenge.rw_everyworld_k05_whole_needs_and_uses) (n := 63) (k := 2 * 50) (x := "_law_script") rfl (by decide) (by kernel_rfl) ⟨rfl, by decide, by decide⟩ ?F
    intro w mg fa h Y G hmg0
    obtain ⟨K, KX, c⟩ := Y
    have hmg : mg ("law" : PySem.Str) = some (.ref fa) := by
      have e : (HandSHeadRun.topDef (OpenLaw.row PySem.Challenge.rw_everyworld_k05_whole_needs_and_uses).prog 49).name = ("law" : PySem.Str) := by kernel_rfl
      rw [← e]
      exact hmg0
    exact VI.walkG _root_.W.given (lw := 40) (d := W.Pr.defs[40]) (x := "law") rfl rfl rfl rfl rfl (fun ns hl => _root_.Q05.plain (n := 21) (ns := ns) hl) KX G c hmg
