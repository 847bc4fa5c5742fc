import PyProof.Rows.All
import Wide.All
import OpenK.AllK
import Wide.FinOn
import HandS.Head0
import HandS.Head1
import HandS.Head2
import HandS.Head3
import PyProof.ReprReads
import HandS.ForMost
import HandS.ForExc
import HandS.Flow
import HandS.Style
import HandS.TupAny
import HandS.IsInst
import HandS.CallSlots
import HandS.More
import HandS.Deep
import HandS.WideBits
import HandS.Wide
import PyProof.ReprRoads
import KE.GoesNew
import HandS.Zip
import HandS.Small
import KE.KUnpackStar
import HandS.CallLocal
import HandS.Text
import HandS.Dict
import PyProof.DictUpdate
import HandS.ListItems
import KE.KDictZip
import HandS.ExcInit
import HandS.ExcField
import HandS.ExcIs
import KE.KExcIs
import HandS.Ends
import HandS.HeadHook3
import PyProof.Rows.Walk
import PyProof.StrLawsRepr
import PyProof.FitsInt
import PyProof.ReprText
import PySem.Challenge.RW_exactroom_k83_expressions
set_option Elab.async false
set_option linter.all false
set_option maxRecDepth 100000
set_option maxHeartbeats 8000000
section
/-! The core language: data, store, syntax, interpreter (plain Lean, no program in sight). -/
namespace Mi
abbrev Sg := List Nat

inductive D where
  | non | bl (b : Bool) | int (i : Int) | str (x : Sg) | ty (n : String)
  | glo (g : Nat) | ref (n : Nat) | xcp (c : Nat) (fs : List (Sg × D))
  | tup (ds : List D) | lst (ds : List D) | lck (ds : List D) | dct (kvs : List (D × D))
  | kdc (kvs : List (Sg × D))
  deriving Inhabited

/-- a live object -/
inductive SO where
  | lst (ds : List D) | dct (kvs : List (D × D)) (lk : Bool) | ins (c : Nat) (fs : List (Sg × D))
abbrev St := List (Option SO)

/-- how an expression ends -/
inductive Re (α : Type) where
  | ok (a : α) (S : St) | exc (c : Nat) (fs : List (Sg × D)) (S : St) | stuck
@[inline] def Re.bnd {α β : Type} (m : Re α) (f : α → St → Re β) : Re β := match m with
  | .ok a S => f a S
  | .exc c fs S => .exc c fs S
  | .stuck => .stuck
abbrev M (α : Type) := St → Re α

inductive Bop where | add | sub | mul | fdiv | mod | pow
inductive Cop where | lt | le | gt | ge | eq | ne | isin | notin | isN | notN
/-- a class that isinstance names -/
inductive Tg where | bt (n : String) | own (g : Nat)
/-- built-ins -/
inductive Bi where | len | abs | min | max | rep | str | int | list | tup | dict | sum | all | any | divmod
/-- methods of built-in types -/
inductive Mt where | append | extend | pop | join | get | get2 | update
mutual
inductive CE where
  | var (i : Nat) | glo (g : Nat) | cst (d : D)
  | bin (o : Bop) (a b : CE) | neg (a : CE) | not (a : CE)
  | cmp (o : Cop) (a b : CE) | chn (o o' : Cop) (a b c : CE)
  | and (a b : CE) | or (a b : CE) | ite (c a b : CE)
  | tup (es : List CE) | lst (live : Bool) (es : List CE)
  | dsp (live : Bool) (es : List CE) | sub (a i : CE) | slc (a : CE) (lo hi : Option CE) | rev (live : Bool) (a : CE) | lenu (a : CE)
  | att (a : CE) (f : Sg) | exf (i : Nat) (f : Sg) | exi (i : Nat) (ts : List Nat)
  | isi (a : CE) (ts : List Tg)
  | bi (b : Bi) (es : List CE)
  | met (o : CE) (m : Mt) (es : List CE)
  | call (g : Nat) (es : List CE)
  | cav (i : Nat) (es : List CE)
  | lc (live : Bool) (el : CE) (tg : CT) (it : CI) (cs : List CE) (own : List Nat)
inductive CT where
  | name (i : Nat) | tup (ts : List CT) | star (ts : List CT) (i : Nat) | sub (o i : CE) | att (o : CE) (f : Sg)
inductive CI where
  | seq (e : CE) | rng (es : List CE) | enu (e : CE) | zip (a b : CE)
end
inductive CS where
  | exp (e : CE) | asg (t : CT) (e : CE) | aug (i : Nat) (o : Bop) (e : CE)
  | ret (e : CE) | ite (c : CE) (a b : List CS) | for_ (t : CT) (it : CI) (b : List CS)
  | whl (c : CE) (b : List CS) | brk | cnt | pass
  | rse (c : Nat) (es : List CE) | trA (b : List CS) (c : Nat) (i : Nat) (h : List CS)
end Mi
namespace Mi
/-- the most items of a list, signs of a text -/
abbrev LIM : Nat := 16777216
/-! ### values -/
/-- a list that may be read in full: its own, or live -/
def asM (S : St) : D → Option (List D)
  | .lst ds => some ds
  | .ref n => match S[n]? with
    | some (some (.lst ds)) => some ds
    | _ => none
  | _ => none
/-- .. or one that was handed in (locked) -/
def asL (S : St) : D → Option (List D)
  | .lst ds => some ds
  | .lck ds => some ds
  | .ref n => match S[n]? with
    | some (some (.lst ds)) => some ds
    | _ => none
  | _ => none
def asSeq (S : St) (d : D) : Option (List D) := match d with
  | .tup ds => some ds
  | d => asL S d
/-- a place in a sequence of n items -/
def ixOf (n : Nat) (i : Int) : Option Nat := if 0 ≤ i then (if i < n then some i.toNat else none) else if -(n : Int) ≤ i then some (i + n).toNat else none
def atIx {α : Type} (xs : List α) (i : Int) : Option α := (ixOf xs.length i).bind fun j => xs[j]?
def sIx (n d : Nat) : Option Int → Nat
  | none => d
  | some i => if i < 0 then (i + n).toNat else min i.toNat n
def cut {α : Type} (xs : List α) (lo hi : Option Int) : List α := (xs.drop (sIx xs.length 0 lo)).take (sIx xs.length xs.length hi - sIx xs.length 0 lo)
mutual
/-- == of data -/
def eqD : D → D → Bool
  | .non, .non => true
  | .bl a, .bl b => a == b
  | .bl a, .int b => (if a then 1 else 0) == b
  | .int a, .bl b => a == (if b then 1 else 0)
  | .int a, .int b => a == b
  | .str a, .str b => a == b
  | .tup a, .tup b => eqDs a b
  | .lst a, .lst b => eqDs a b
  | _, _ => false
def eqDs : List D → List D → Bool
  | [], [] => true
  | x :: xs, y :: ys => eqD x y && eqDs xs ys
  | _, _ => false
end
mutual
/-- data that == and repr look through: nothing live, no dict, its depth within the second argument -/
def flatD : Nat → D → Bool
  | _, .non | _, .bl _ | _, .int _ | _, .str _ => true
  | n + 1, .tup ds | n + 1, .lst ds => flatDs n ds
  | _, _ => false
def flatDs : Nat → List D → Bool
  | _, [] => true
  | n, d :: ds => flatD n d && flatDs n ds
end
def scalD : D → Bool
  | .non | .bl _ | .int _ | .str _ => true
  | _ => false
/-- what == may look at: read lists out of the store -/
def vw (S : St) (d : D) : D := match d with
  | .ref n => (match S[n]? with
    | some (some (.lst ds)) => .lst ds
    | _ => .ref n)
  | d => d
def empD : D → Bool
  | .lst [] => true
  | _ => false
def eqOp (S : St) (a b : D) : Option Bool :=
  if flatD 60 (vw S a) && flatD 60 (vw S b) then some (eqD (vw S a) (vw S b)) else if empD (vw S b) then (match asL S a with
    | some (_ :: _) => some false
    | _ => none) else none
def keyD : D → Bool
  | .int _ | .str _ => true
  | _ => false
/-- the value under a key -/
def getD (kvs : List (D × D)) (k : D) : Option D := match kvs with
  | [] => none
  | (a, b) :: r => if eqD a k then some b else getD r k
def inOp (S : St) (x y : D) : Option Bool := match y with
  | .str z => (match x with
    | .str [c] => some (z.contains c)
    | _ => none)
  | .dct kvs => if keyD x then some (getD kvs x).isSome else none
  | .kdc kvs => (match x with
    | .str z => some (kvs.lookup z).isSome
    | _ => none)
  | .ref n => (match S[n]? with
    | some (some (.lst ds)) => if scalD x && ds.all scalD then some (ds.any fun z => eqD z x) else if flatD 60 x && flatDs 59 ds then some (ds.any fun z => eqD z x) else none
    | some (some (.dct kvs _)) => if keyD x then some (getD kvs x).isSome else none
    | _ => none)
  | .tup ds => if scalD x && ds.all scalD then some (ds.any fun z => eqD z x) else none
  | .lst ds | .lck ds => if scalD x && ds.all scalD then some (ds.any fun z => eqD z x) else if flatD 60 x && flatDs 59 ds then some (ds.any fun z => eqD z x) else none
  | _ => none
def ordOp (f : Int → Int → Bool) : D → D → Option D
  | .int i, .int j => some (.bl (f i j))
  | _, _ => none
def isNon : D → Bool
  | .non => true
  | _ => false
def cmpOp (S : St) : Cop → D → D → Option D
  | .lt => ordOp fun i j => decide (i < j)
  | .le => ordOp fun i j => decide (i ≤ j)
  | .gt => ordOp fun i j => decide (j < i)
  | .ge => ordOp fun i j => decide (j ≤ i)
  | .eq => fun a b => (eqOp S a b).map .bl
  | .ne => fun a b => (eqOp S a b).map fun r => .bl (!r)
  | .isin => fun a b => (inOp S a b).map .bl
  | .notin => fun a b => (inOp S a b).map fun r => .bl (!r)
  | .isN => fun a b => if isNon b then some (.bl (isNon a)) else none
  | .notN => fun a b => if isNon b then some (.bl (!isNon a)) else none
abbrev P64 : Int := 18446744073709551616
def addOp (S : St) : D → D → Option D
  | .int i, .int j => some (.int (i + j))
  | .str x, .str y => if x.length + y.length ≤ LIM then some (.str (x ++ y)) else none
  | .tup x, .tup y => if x.length + y.length ≤ LIM then some (.tup (x ++ y)) else none
  | a, b => (asM S a).bind fun x => (asM S b).bind fun y => if x.length + y.length ≤ LIM then some (.lst (x ++ y)) else none
def mulOp (S : St) : D → D → Option D
  | .int i, .int j => if (-P64 < i ∧ i < P64) ∨ (-P64 < j ∧ j < P64) then some (.int (i * j)) else none
  | a, .int n => (asM S a).bind fun x => if 0 ≤ n ∧ n < P64 / 2 ∧ x.length * n.toNat ≤ LIM then some (.lst (List.replicate n.toNat x).flatten) else none
  | _, _ => none
def intOp (f : Int → Int → Option Int) : D → D → Option D
  | .int i, .int j => (f i j).map .int
  | _, _ => none
def fdivI (i j : Int) : Option Int := if 0 < j ∧ j < 1073741824 then some (i / j) else none
def modI (i j : Int) : Option Int := if 0 < j then some (i % j) else none
def powI (i j : Int) : Option Int := if 0 ≤ j ∧ j ≤ 1000 ∧ -P64 < i ∧ i < P64 then some (i ^ j.toNat) else none
def binOp (S : St) : Bop → D → D → Option D
  | .add => addOp S
  | .sub => intOp fun i j => some (i - j)
  | .mul => mulOp S
  | .fdiv => intOp fdivI
  | .mod => intOp modI
  | .pow => intOp powI
def subOp (S : St) (a i : D) : Option D := match a, i with
  | .str z, .int i => (atIx z i).map fun c => .str [c]
  | .dct kvs, k => if keyD k then getD kvs k else none
  | .kdc kvs, k => (match k with
    | .str z => kvs.lookup z
    | _ => none)
  | .ref n, k => (match S[n]? with
    | some (some (.lst ds)) => (match k with
      | .int i => atIx ds i
      | _ => none)
    | some (some (.dct kvs _)) => if keyD k then getD kvs k else none
    | _ => none)
  | a, .int i => (asSeq S a).bind fun ds => atIx ds i
  | _, _ => none
def slcOp (S : St) (a : D) (lo hi : Option Int) : Option D := match a with
  | .str z => some (.str (cut z lo hi))
  | .tup ds => some (.tup (cut ds lo hi))
  | a => (asL S a).map fun ds => .lst (cut ds lo hi)
/-- what the program is: the defs by number, their bodies; the module's constants; the classes -/
structure FnD where
  ps : Nat
  nl : Nat
  body : List CS
structure Pg where
  fn : Nat → Option FnD
  /-- a module's constant, as data -/
  con : Nat → Option D
  /-- is the class g one of, or below, the class h? -/
  subc : Nat → Nat → Bool
  /-- an exception's class: how many arguments, which of them are kept under which name -/
  xin : Nat → Option (Nat × List (Sg × Nat)) := fun _ => none
  /-- of two exceptions' classes: is the first below the second? -/
  xsub : Nat → Nat → Option Bool := fun _ _ => none
  /-- the exception that is being handled -/
  xc : Option (Nat × List (Sg × D)) := none
/-- what an exception keeps -/
def mkX : List (Sg × Nat) → List D → List (Sg × D) → Option (List (Sg × D))
  | [], _, acc => some acc
  | (f, k) :: r, ds, acc => match ds[k]? with
    | some d => mkX r ds ((f, d) :: acc)
    | none => none
def xisAny (P : Pg) (c : Nat) : List Nat → Option Bool
  | [] => some false
  | t :: ts => match P.xsub c t with
    | some true => some true
    | some false => xisAny P c ts
    | none => none
/-- isinstance of one class -/
def btOk (n : String) : Bool := n == "int" || n == "str" || n == "bool" || n == "list" || n == "tuple" || n == "dict"
def isT (P : Pg) (S : St) (d : D) : Tg → Option Bool
  | .bt n => if btOk n then (match d with
    | .non => some false
    | .bl _ => some (n == "bool" || n == "int")
    | .int _ => some (n == "int")
    | .str _ => some (n == "str")
    | .tup _ => some (n == "tuple")
    | .lst _ | .lck _ => some (n == "list")
    | .dct _ | .kdc _ => some (n == "dict")
    | .ref k => (match S[k]? with
      | some (some (.lst _)) => some (n == "list")
      | some (some (.dct _ _)) => some (n == "dict")
      | _ => none)
    | _ => none) else none
  | .own g => match d with
    | .non | .bl _ | .int _ | .str _ | .tup _ | .lst _ | .lck _ | .dct _ | .kdc _ => some false
    | .ref k => (match S[k]? with
      | some (some (.ins c _)) => some (P.subc c g)
      | some (some _) => some false
      | _ => none)
    | .xcp c _ => some (P.subc c g)
    | _ => none
def isTs (P : Pg) (S : St) (d : D) : List Tg → Option Bool
  | [] => some false
  | t :: ts => (isT P S d t).bind fun b => if b then some true else isTs P S d ts
/-! ### texts of data -/
def natSg (n : Nat) : Sg := (Nat.toDigits 10 n).map Char.toNat
def intSg (i : Int) : Sg := if i < 0 then 45 :: natSg i.natAbs else natSg i.natAbs
def joinSg (sep : Sg) : List Sg → Sg
  | [] => []
  | [x] => x
  | x :: y :: r => x ++ sep ++ joinSg sep (y :: r)
end Mi
namespace Mi
open PySem
def toStr (x : Sg) : Str := ⟨x.toArray⟩
mutual
def pd : D → PyData
  | .non => .none | .bl b => .bool b | .int i => .int i | .str x => .str (toStr x)
  | .tup ds => .tuple (pds ds) | .lst ds => .list (pds ds) | .dct kvs => .dict (pkv kvs)
  | _ => .none
def pds : List D → List PyData
  | [] => []
  | d :: ds => pd d :: pds ds
def pkv : List (D × D) → List (PyData × PyData)
  | [] => []
  | (a, b) :: r => (pd a, pd b) :: pkv r
end
mutual
/-- data whose text repr writes: its depth within the first argument, ints of moderate size -/
def repOk : Nat → D → Bool
  | _, .non | _, .bl _ | _, .str _ => true
  | _, .int i => decide (i.natAbs.log2 < 1920)
  | n + 1, .tup ds | n + 1, .lst ds => repOks n ds
  | n + 1, .dct kvs => repOkv n kvs
  | _, _ => false
def repOks : Nat → List D → Bool
  | _, [] => true
  | n, d :: ds => repOk n d && repOks n ds
def repOkv : Nat → List (D × D) → Bool
  | _, [] => true
  | n, (a, b) :: r => scalD a && repOk n a && repOk n b && repOkv n r
end
def shw (d : D) : Sg := (pd d).shown.cps.toList
def repOp (S : St) (a : D) : Option D := if repOk 60 (vw S a) && decide ((shw (vw S a)).length ≤ LIM) then some (.str (shw (vw S a))) else none
/-! ### built-ins -/
def intsOf : List D → Option (List Int)
  | [] => some []
  | .int i :: r => (intsOf r).map (i :: ·)
  | _ => none
def blsOf : List D → Option (List Bool)
  | [] => some []
  | .bl i :: r => (blsOf r).map (i :: ·)
  | _ => none
def strsOf : List D → Option (List Sg)
  | [] => some []
  | .str i :: r => (strsOf r).map (i :: ·)
  | _ => none
def putD (k v : D) (kvs : List (D × D)) : List (D × D) :=
  if kvs.any (fun p => eqD p.1 k) then kvs.map (fun p => if eqD p.1 k then (p.1, v) else p) else kvs ++ [(k, v)]
def mergeD (kvs more : List (D × D)) : List (D × D) := more.foldl (fun acc p => putD p.1 p.2 acc) kvs
def pairsOf : List D → Option (List (D × D))
  | [] => some []
  | .tup [a, b] :: r => (pairsOf r).map ((a, b) :: ·)
  | _ => none
def maxI : List Int → Option Int
  | [] => none
  | x :: r => some (r.foldl (fun a b => if b > a then b else a) x)
def minI : List Int → Option Int
  | [] => none
  | x :: r => some (r.foldl (fun a b => if b < a then b else a) x)
def biOp (S : St) (b : Bi) (vs : List D) : Option D := match b, vs with
  | .len, [.str z] => some (.int z.length)
  | .len, [.dct kvs] => some (.int kvs.length)
  | .len, [a] => (asSeq S a).map fun ds => .int ds.length
  | .abs, [.int i] => some (.int (if i < 0 then -i else i))
  | .min, [.int i, .int j] => some (.int (if j < i then j else i))
  | .max, [.int i, .int j] => some (.int (if j > i then j else i))
  | .rep, [a] => repOp S a
  | .int, [.int i] => some (.int i)
  | .int, [.bl b] => some (.int (if b then 1 else 0))
  | .list, [a] => (asSeq S a).map .lst
  | .tup, [a] => (asSeq S a).map .tup
  | .sum, [a] => (asL S a).bind fun ds => (intsOf ds).map fun is => .int is.sum
  | .all, [a] => (asL S a).bind fun ds => (blsOf ds).map fun bs => .bl (bs.all id)
  | .any, [a] => (asL S a).bind fun ds => (blsOf ds).map fun bs => .bl (bs.any id)
  | .divmod, [.int i, .int j] => if 0 < j ∧ j < P64 then some (.tup [.int (i / j), .int (i % j)]) else none
  | .dict, [a] => (asL S a).bind fun ds => (pairsOf ds).bind fun ps => if ps.all (fun p => keyD p.1) then some (.dct (mergeD [] ps)) else none
  | _, _ => none
/-- a dict that is read -/
def dOf (S : St) : D → Option (List (D × D))
  | .dct kvs => some kvs
  | .ref n => (match S[n]? with
    | some (some (.dct kvs _)) => some kvs
    | _ => none)
  | _ => none
/-- the pairs of a written dict -/
def dspOf : List D → Option (List (D × D))
  | [] => some []
  | k :: v :: r => if keyD k then (dspOf r).map ((k, v) :: ·) else none
  | _ => none
def sameRef (v : D) (n : Nat) : Bool := match v with
  | .ref m => m == n
  | _ => false
/-- the receiver is of the method's type -/
def mtPre (S : St) (m : Mt) (o : D) : Bool := match m with
  | .append | .extend | .pop => (asM S o).isSome
  | .join => (match o with
    | .str _ => true
    | _ => false)
  | .get | .get2 => (dOf S o).isSome
  | .update => (match o with
    | .ref n => (match S[n]? with
      | some (some (.dct _ false)) => true
      | _ => false)
    | _ => false)
/-- a method of a built-in type: its value, the store behind -/
def mtOp (S : St) (o : D) (m : Mt) (vs : List D) : Option (D × St) := match m, o, vs with
  | .append, .ref n, [v] => (match S[n]? with
    | some (some (.lst ds)) => if ds.length < LIM then some (.non, S.set n (some (.lst (ds ++ [v])))) else none
    | _ => none)
  | .extend, .ref n, [v] => (match S[n]?, asM S v with
    | some (some (.lst ds)), some es => if ds.length + es.length ≤ LIM then some (.non, S.set n (some (.lst (ds ++ es)))) else none
    | _, _ => none)
  | .pop, .ref n, [] => (match S[n]? with
    | some (some (.lst ds)) => (ds.getLast?).map fun v => (v, S.set n (some (.lst ds.dropLast)))
    | _ => none)
  | .join, .str sep, [a] => (asL S a).bind fun ds => (strsOf ds).bind fun xs => if (joinSg sep xs).length + sep.length ≤ LIM then some (.str (joinSg sep xs), S) else none
  | .get, o, [k] => (dOf S o).bind fun kvs => if keyD k then some ((getD kvs k).getD .non, S) else none
  | .get2, o, [k, x] => (dOf S o).bind fun kvs => if keyD k then some ((getD kvs k).getD x, S) else none
  | .update, .ref n, [v] => (match S[n]?, dOf S v with
    | some (some (.dct kvs false)), some more => if kvs.length + more.length ≤ LIM && !sameRef v n then some (.non, S.set n (some (.dct (mergeD kvs more) false))) else none
    | _, _ => none)
  | _, _, _ => none
def lift {α : Type} (o : Option α) (S : Mi.St) : Re α := match o with
  | some a => .ok a S
  | none => .stuck
abbrev Env := List (Option D)
def isHole (e : Env) (i : Nat) : Bool := match e[i]? with
  | some none => true
  | _ => false
def wipe (e : Env) : List Nat → Env
  | [] => e
  | v :: vs => (wipe e vs).set v none
/-- an item set in a live object -/
def setItem (S : Mi.St) (o i v : D) : Option Mi.St := match o with
  | .ref n => (match S[n]? with
    | some (some (.lst ds)) => (match i with
      | .int j => (ixOf ds.length j).map fun k => S.set n (some (.lst (ds.set k v)))
      | _ => none)
    | some (some (.dct kvs false)) => if keyD i && decide (kvs.length < LIM) then some (S.set n (some (.dct (putD i v kvs) false))) else none
    | _ => none)
  | _ => none
/-- a number range written by one, two or three arguments -/
def rngD : List D → Option (List D)
  | [.int n] => if n ≤ 4294967296 ∧ -4294967296 ≤ n then some ((List.range n.toNat).map fun (i : Nat) => .int (i : Int)) else none
  | [.int a, .int b] => if b ≤ 4294967296 ∧ -4294967296 ≤ b ∧ a ≤ 4294967296 ∧ -4294967296 ≤ a then some ((List.range (b - a).toNat).map fun (i : Nat) => .int (a + (i : Int))) else none
  | _ => none
def enuD (ds : List D) : List D := ds.zipIdx.map fun p => .tup [.int (p.2 : Int), p.1]
def zipD (xs ys : List D) : List D := List.zipWith (fun a b => .tup [a, b]) xs ys
/-- what a walk meets at its turn i: an item, or its end -/
abbrev IT := Mi.St → Nat → Option (Option D)
def itFix (ds : List D) : IT := fun _ i => if i ≤ ds.length then some ds[i]? else none
def itLive (n : Nat) : IT := fun S i => match S[n]? with
  | some (some (.lst ds)) => if i ≤ ds.length then some ds[i]? else none
  | _ => none
def itOf (S : Mi.St) : D → Option IT
  | .str z => some (itFix (z.map fun c => .str [c]))
  | .tup ds | .lst ds | .lck ds => some (itFix ds)
  | .ref n => (match S[n]? with
    | some (some (.lst _)) => some (itLive n)
    | _ => none)
  | _ => none
def itEnu (f : IT) : IT := fun S i => match f S i with
  | some (some d) => some (some (.tup [.int (i : Int), d]))
  | some none => some none
  | none => none
def itZip (f g : IT) : IT := fun S i => match f S i, g S i with
  | some (some a), some (some b) => some (some (.tup [a, b]))
  | some none, some _ => some none
  | some _, some none => some none
  | _, _ => none
end Mi
namespace Mi
/-! ### the interpreter -/
abbrev Fns := Nat → List D → M D
/-- how a statement ends -/
inductive RS where
  | nx (e : Env) (S : St) | rt (d : D) (S : St) | bk (e : Env) (S : St) | ct (e : Env) (S : St)
  | exc (c : Nat) (fs : List (Sg × D)) (e : Env) (S : St) | stuck
def Re.toS {α : Type} (m : Re α) (e : Env) (f : α → St → RS) : RS := match m with
  | .ok a S => f a S
  | .exc c fs S => .exc c fs e S
  | .stuck => .stuck
/-- no exception -/
def Re.nox {α : Type} (m : Re α) : Re α := match m with
  | .exc _ _ _ => .stuck
  | m => m
/-- a comprehension's turns: what each item gives (none: left out) -/
def turnsC (f : D → M (Option D)) (it : IT) : Nat → Nat → List D → M (List D)
  | 0, _, _, _ => .stuck
  | n + 1, i, acc, S => (match it S i with
    | none => .stuck
    | some none => .ok acc S
    | some (some x) => (f x S).bnd fun o S1 => turnsC f it n (i + 1) (match o with
      | some y => acc ++ [y]
      | none => acc) S1)
def alloc (live : Bool) (ds : List D) : M D := fun S => if live then .ok (.ref S.length) (S ++ [some (.lst ds)]) else .ok (.lst ds) S
def allocD (live : Bool) (kvs : List (D × D)) : M D := fun S => if live then .ok (.ref S.length) (S ++ [some (.dct kvs false)]) else .ok (.dct kvs) S
def asB : D → Option Bool
  | .bl b => some b
  | _ => none
/-- a test's answer -/
def tB (m : Re D) : Re Bool := m.bnd fun x S1 => lift (asB x) S1
/-- the most turns of a walk -/
abbrev TURNS : Nat := 16777216
section
variable (P : Pg) (F : Fns)
mutual
def evE : CE → Env → M D
  | .var i, e, S => lift (e[i]?.bind id) S
  | .glo g, _, S => .ok (match P.con g with | some d => d | none => .glo g) S
  | .cst d, _, S => .ok d S
  | .bin o a b, e, S => (evE a e S).bnd fun x S1 => (evE b e S1).bnd fun y S2 => lift (binOp S2 o x y) S2
  | .neg a, e, S => (evE a e S).bnd fun x S1 => (match x with
    | .int i => .ok (.int (-i)) S1
    | _ => .stuck)
  | .not a, e, S => (tB (evE a e S)).bnd fun b S1 => .ok (.bl (!b)) S1
  | .cmp o a b, e, S => (evE a e S).bnd fun x S1 => (evE b e S1).bnd fun y S2 => lift (cmpOp S2 o x y) S2
  | .chn o o' a b c, e, S => (evE a e S).bnd fun x S1 => (evE b e S1).bnd fun y S2 => (lift (cmpOp S2 o x y) S2).bnd fun z S3 => (match z with
    | .bl true => (evE c e S3).bnd fun u S4 => lift (cmpOp S4 o' y u) S4
    | .bl false => .ok (.bl false) S3
    | _ => .stuck)
  | .and a b, e, S => (tB (evE a e S)).bnd fun c S1 => if c then (tB (evE b e S1)).bnd fun d S2 => .ok (.bl d) S2 else .ok (.bl false) S1
  | .or a b, e, S => (tB (evE a e S)).bnd fun c S1 => if c then .ok (.bl true) S1 else (tB (evE b e S1)).bnd fun d S2 => .ok (.bl d) S2
  | .ite c a b, e, S => (tB (evE c e S)).bnd fun k S1 => if k then evE a e S1 else evE b e S1
  | .tup es, e, S => (evEs es e S).bnd fun xs S1 => if xs.length ≤ LIM then .ok (.tup xs) S1 else .stuck
  | .lst live es, e, S => (evEs es e S).bnd fun xs S1 => if xs.length ≤ LIM then alloc live xs S1 else .stuck
  | .dsp live es, e, S => (evEs es e S).nox.bnd fun xs S1 => (match dspOf xs with
    | some kvs => if kvs.length ≤ 15 then allocD live (mergeD [] kvs) S1 else .stuck
    | none => .stuck)
  | .sub a i, e, S => (evE a e S).bnd fun x S1 => (evE i e S1).bnd fun y S2 => lift (subOp S2 x y) S2
  | .slc a lo hi, e, S => (evE a e S).bnd fun x S1 => (evO lo e S1).bnd fun l S2 => (evO hi e S2).bnd fun h S3 => lift (slcOp S3 x l h) S3
  | .rev live a, e, S => (evE a e S).bnd fun x S1 => (match asL S1 x with
    | some ds => alloc live ds.reverse S1
    | none => .stuck)
  | .lenu a, e, S => (evE a e S).bnd fun x S1 => lift ((asSeq S1 x).map fun ds => .lst (enuD ds)) S1
  | .att a f, e, S => (evE a e S).bnd fun x S1 => (match x with
    | .ref n => (match S1[n]? with
      | some (some (.ins _ fs)) => lift (fs.lookup f) S1
      | _ => .stuck)
    | .xcp _ fs => lift (fs.lookup f) S1
    | _ => .stuck)
  | .exf i f, e, S => (match P.xc with
    | some (_, fs) => if isHole e i then lift (fs.lookup f) S else .stuck
    | none => .stuck)
  | .exi i ts, e, S => (match P.xc with
    | some (c, _) => if isHole e i then lift ((xisAny P c ts).map .bl) S else .stuck
    | none => .stuck)
  | .isi a ts, e, S => (evE a e S).bnd fun x S1 => lift ((isTs P S1 x ts).map .bl) S1
  | .bi b es, e, S => (evEs es e S).bnd fun xs S1 => lift (biOp S1 b xs) S1
  | .met o m es, e, S => (evE o e S).bnd fun x S1 => if mtPre S1 m x then (evEs es e S1).bnd fun xs S2 => (match mtOp S2 x m xs with
    | some (d, S3) => .ok d S3
    | none => .stuck) else .stuck
  | .call g es, e, S => (evEs es e S).bnd fun xs S1 => F g xs S1
  | .cav i es, e, S => (lift (e[i]?.bind id) S).bnd fun f S1 => (match f with
    | .glo g => if (P.fn g).isSome then (evEs es e S1).bnd fun xs S2 => F g xs S2 else .stuck
    | _ => .stuck)
  | .lc live el tg it cs own, e, S => (evI it e S).bnd fun items S1 => (turnsC (fun x S2 => ((asg tg x (wipe e own) S2).bnd fun e2 S3 => (evCs cs e2 S3).bnd fun b S4 =>
      if b then (evE el e2 S4).bnd fun y S5 => .ok (some y) S5 else .ok none S4).nox) items TURNS 0 [] S1).bnd fun ds S6 => alloc live ds S6
def evEs : List CE → Env → M (List D)
  | [], _, S => .ok [] S
  | a :: r, e, S => (evE a e S).bnd fun x S1 => (evEs r e S1).bnd fun xs S2 => .ok (x :: xs) S2
/-- a part of a slice -/
def evO : Option CE → Env → M (Option Int)
  | none, _, S => .ok none S
  | some a, e, S => (evE a e S).bnd fun x S1 => (match x with
    | .int i => .ok (some i) S1
    | _ => .stuck)
def evCs : List CE → Env → M Bool
  | [], _, S => .ok true S
  | c :: r, e, S => (tB (evE c e S)).bnd fun b S1 => if b then evCs r e S1 else .ok false S1
/-- what is walked -/
def evI : CI → Env → M IT
  | .seq a, e, S => (evE a e S).bnd fun x S1 => lift (itOf S1 x) S1
  | .rng es, e, S => (evEs es e S).bnd fun xs S1 => lift ((rngD xs).map itFix) S1
  | .enu a, e, S => (evE a e S).bnd fun x S1 => lift ((itOf S1 x).map itEnu) S1
  | .zip a b, e, S => (evE a e S).bnd fun x S1 => (evE b e S1).bnd fun y S2 => lift ((itOf S2 x).bind fun f => (itOf S2 y).map fun g => itZip f g) S2
/-- a target takes a value -/
def asg : CT → D → Env → M Env
  | .name i, d, e, S => if i < e.length then .ok (e.set i (some d)) S else .stuck
  | .tup ts, d, e, S => (match d with
    | .tup ds => if ds.length = ts.length then asgs ts ds e S else .stuck
    | _ => .stuck)
  | .star ts i, d, e, S => (match d with
    | .tup ds => if ts.length ≤ ds.length ∧ ds.length ≤ 16384 then (asgs ts (ds.take ts.length) e S).bnd fun e1 S1 => if i < e1.length then .ok (e1.set i (some (.lst (ds.drop ts.length)))) S1 else .stuck else .stuck
    | _ => .stuck)
  | .sub o i, d, e, S => (evE o e S).nox.bnd fun x S1 => (evE i e S1).nox.bnd fun y S2 => (match setItem S2 x y d with
    | some S3 => .ok e S3
    | none => .stuck)
  | .att o f, d, e, S => (evE o e S).nox.bnd fun x S1 => (match x with
    | .ref n => (match S1[n]? with
      | some (some (.ins c fs)) => .ok e (S1.set n (some (.ins c ((f, d) :: fs.filter fun p => p.1 != f))))
      | _ => .stuck)
    | _ => .stuck)
def asgs : List CT → List D → Env → M Env
  | [], [], e, S => .ok e S
  | t :: ts, d :: ds, e, S => (asg t d e S).bnd fun e1 S1 => asgs ts ds e1 S1
  | _, _, _, _ => .stuck
end
/-- a for loop's turns -/
def turnsF (f : D → Env → St → RS) (it : IT) : Nat → Nat → Env → St → RS
  | 0, _, _, _ => .stuck
  | n + 1, i, e, S => (match it S i with
    | none => .stuck
    | some none => .nx e S
    | some (some x) => (match f x e S with
      | .nx e1 S1 => turnsF f it n (i + 1) e1 S1
      | .ct e1 S1 => turnsF f it n (i + 1) e1 S1
      | .bk e1 S1 => .nx e1 S1
      | s => s))
/-- a while loop's turns, so many at most -/
def turnsW (c : Env → M Bool) (f : Env → St → RS) : Nat → Env → St → RS
  | 0, _, _ => .stuck
  | n + 1, e, S => (c e S).toS e fun b S1 => if b then (match f e S1 with
    | .nx e2 S2 => turnsW c f n e2 S2
    | .ct e2 S2 => turnsW c f n e2 S2
    | .bk e2 S2 => .nx e2 S2
    | s => s) else .nx e S1
end
mutual
def evS (P : Pg) (F : Fns) (W : Nat) : CS → Env → St → RS
  | .exp a, e, S => (evE P F a e S).toS e fun _ S1 => .nx e S1
  | .asg t a, e, S => (evE P F a e S).toS e fun d S1 => (asg P F t d e S1).nox.toS e fun e1 S2 => .nx e1 S2
  | .aug i o a, e, S => (lift (e[i]?.bind id) S).toS e fun x S0 => (evE P F a e S0).toS e fun d S1 => (match o, x, d with
    | .add, .int a, .int b => if i < e.length then .nx (e.set i (some (.int (a + b)))) S1 else .stuck
    | .sub, .int a, .int b => if i < e.length then .nx (e.set i (some (.int (a - b)))) S1 else .stuck
    | _, _, _ => .stuck)
  | .ret a, e, S => (evE P F a e S).toS e fun d S1 => .rt d S1
  | .ite c a b, e, S => (tB (evE P F c e S)).toS e fun k S1 => if k then evSs P F W a e S1 else evSs P F W b e S1
  | .for_ t it b, e, S => (evI P F it e S).toS e fun items S1 => turnsF (fun x e2 S2 => (asg P F t x e2 S2).nox.toS e2 fun e3 S3 => evSs P F W b e3 S3) items TURNS 0 e S1
  | .whl c b, e, S => turnsW (fun e2 S2 => tB (evE P F c e2 S2)) (fun e2 S2 => evSs P F W b e2 S2) W e S
  | .brk, e, S => .bk e S
  | .cnt, e, S => .ct e S
  | .pass, e, S => .nx e S
  | .rse c es, e, S => (evEs P F es e S).toS e fun ds S1 => (match P.xin c with
    | some (np, fl) => if ds.length = np ∧ np ≤ 100 then (match mkX fl ds [] with
      | some fs => .exc c fs e S1
      | none => .stuck) else .stuck
    | none => .stuck)
  | .trA b c i h, e, S => (match P.xc with
    | some _ => .stuck
    | none => (match evSs P F W b e S with
      | .exc c' fs e1 S1 => (match P.xsub c' c with
        | some true => (match evSs { P with xc := some (c', fs) } F W h (e1.set i none) S1 with
          | .nx e2 S2 => .nx (e2.set i none) S2
          | .bk e2 S2 => .bk (e2.set i none) S2
          | .ct e2 S2 => .ct (e2.set i none) S2
          | .rt d S2 => .rt d S2
          | _ => .stuck)
        | some false => .exc c' fs e1 S1
        | none => .stuck)
      | z => z))
def evSs (P : Pg) (F : Fns) (W : Nat) : List CS → Env → St → RS
  | [], e, S => .nx e S
  | s :: r, e, S => (match evS P F W s e S with
    | .nx e1 S1 => evSs P F W r e1 S1
    | z => z)
end
def callF (P : Pg) (W : Nat) : Nat → Fns
  | 0 => fun _ _ _ => .stuck
  | k + 1 => fun g vs S => (match P.fn g with
    | none => .stuck
    | some d => if vs.length = d.ps then (match evSs P (callF P W k) W d.body (vs.map some ++ List.replicate d.nl none) S with
      | .nx _ S1 => .ok .non S1
      | .rt v S1 => .ok v S1
      | .exc c fs _ S1 => .exc c fs S1
      | _ => .stuck) else .stuck)
/-- the exceptions' classes, from a table: the classes above, what is kept -/
def xinG (c0 : Nat) (xs : List (List Nat × Option (Nat × List (Sg × Nat)))) (c : Nat) : Option (Nat × List (Sg × Nat)) := (if c < c0 then none else xs[c - c0]?).bind (·.2)
def xsubG (c0 : Nat) (xs : List (List Nat × Option (Nat × List (Sg × Nat)))) (c' c : Nat) : Option Bool := (if c' < c0 then none else xs[c' - c0]?).bind fun e => if c < c0 ∨ xs.length ≤ c - c0 then none else some (decide (c - c0 ∈ e.1))
end Mi
end
section
set_option Elab.async false
set_option linter.all false
set_option maxRecDepth 100000
set_option maxHeartbeats 4000000
/-! What a datum is in the model: the relation of data and store to values and heap. -/
namespace Mi
open PySem L2
/-- the exception that is being handled: its name's slot, where it stands, where its fields stand, its class, its fields -/
structure Hot where
  i : Nat
  a : Addr
  dx : Option Addr
  c : Nat
  fs : List (Sg × D)
/-- how numbers are names and addresses -/
structure Lnk where
  ga : Nat → Addr
  nm : Nat → Str
  w : World
  hot : Option Hot := none
/-- a state: the store, where its objects stand, the heap, what nobody may touch -/
structure Wd where
  S : Mi.St
  M : Nat → Addr
  H : Hp
  B : Addr → Prop
/-- at a nothing changes any more -/
def Frz (ω : Wd) (a : Addr) : Prop := (∀ n o, ω.S[n]? = some (some o) → ω.M n ≠ a) ∧ ¬ ω.B a
def noH : Hp := fun _ => none
def IsL (ω : Wd) (a : Addr) (vs : List V) : Prop := ω.H a = some (.lst vs) ∧ Frz ω a
def IsLk (K : PySem.W.Frag) (ω : Wd) (a : Addr) (vs : List V) : Prop := (∃ o, ω.H a = some (.frz o (.lst vs))) ∨ SqL K noH a vs
def IsT (K : PySem.W.Frag) (ω : Wd) (a : Addr) (vs : List V) : Prop := ω.H a = some (.tup vs) ∨ SqT K noH a vs
def IsDk (K : PySem.W.Frag) (ω : Wd) (a : Addr) (ws : List (Key × V)) : Prop := (ω.H a = some (.dK ws) ∨ ∃ o, ω.H a = some (.frz o (.dK ws))) ∧ Frz ω a
def okS (x : Sg) : Prop := PyData.strOk (toStr x) = true ∧ x.length ≤ LIM
def keyOf : D → Option Key
  | .int i => some (.inl i)
  | .str x => some (.inr (toStr x))
  | _ => none
/-- a key's text is well made -/
def okKey (d : D) : Prop := ∀ x, d = .str x → okS x
mutual
def RV (K : PySem.W.Frag) (L : Lnk) (ω : Wd) : D → V → Prop
  | .non, v => v = .non
  | .bl b, v => v = .bl b
  | .int i, v => v = .int i
  | .str x, v => v = .str (toStr x) ∧ okS x
  | .ty n, v => v = .ty n
  | .glo g, v => v = .ref (L.ga g)
  | .ref n, v => n < ω.S.length ∧ v = .ref (ω.M n)
  | .xcp _ _, _ => False
  | .tup ds, v => ∃ a vs, v = .ref a ∧ IsT K ω a vs ∧ RVs K L ω ds vs
  | .lst ds, v => ∃ a vs, v = .ref a ∧ IsL ω a vs ∧ RVs K L ω ds vs
  | .lck ds, v => ∃ a vs, v = .ref a ∧ IsLk K ω a vs ∧ RVs K L ω ds vs
  | .dct kvs, v => ∃ a ws, v = .ref a ∧ IsDk K ω a ws ∧ RVk K L ω kvs ws
  | .kdc kvs, v => ∃ a es n, v = .ref a ∧ KDict K L.w a es n ∧ RVz K L ω kvs (PySem.W.nsIn K a) ∧ ∀ z, kvs.lookup z = none → PySem.W.nsIn K a (toStr z) = some none
def RVs (K : PySem.W.Frag) (L : Lnk) (ω : Wd) : List D → List V → Prop
  | [], vs => vs = []
  | d :: ds, vs => ∃ v r, vs = v :: r ∧ RV K L ω d v ∧ RVs K L ω ds r
def RVk (K : PySem.W.Frag) (L : Lnk) (ω : Wd) : List (D × D) → List (Key × V) → Prop
  | [], ws => ws = []
  | (a, b) :: r, ws => ∃ k v rest, ws = (k, v) :: rest ∧ (keyOf a = some k ∧ okKey a) ∧ RV K L ω b v ∧ RVk K L ω r rest
def RVz (K : PySem.W.Frag) (L : Lnk) (ω : Wd) : List (Sg × D) → (Str → Option (Option Value)) → Prop
  | [], _ => True
  | (x, d) :: r, f => (∃ u v, f (toStr x) = some (some u) ∧ RelV v u ∧ RV K L ω d v) ∧ RVz K L ω r f
end
/-- a live object -/
def OR (K : PySem.W.Frag) (L : Lnk) (ω : Wd) (a : Addr) : SO → Prop
  | .lst ds => ∃ vs, ω.H a = some (.lst vs) ∧ RVs K L ω ds vs
  | .dct kvs false => ∃ ws, ω.H a = some (.dK ws) ∧ RVk K L ω kvs ws
  | .dct kvs true => ∃ od ws, ω.H a = some (.frz od (.dK ws)) ∧ RVk K L ω kvs ws
  | .ins c fs => ∃ dx vs, ω.H a = some (.ins (L.ga c) dx vs) ∧ vs.length ≤ 900 ∧ (∀ f d, fs.lookup f = some d → ∃ v, vs.lookup (toStr f) = some v ∧ RV K L ω d v) ∧ ∀ f, fs.lookup f = none → vs.lookup (toStr f) = none
structure Rel (K : PySem.W.Frag) (L : Lnk) (ω : Wd) : Prop where
  live : ∀ n o, ω.S[n]? = some (some o) → OR K L ω (ω.M n) o
  inj : ∀ n m o u, ω.S[n]? = some (some o) → ω.S[m]? = some (some u) → ω.M n = ω.M m → n = m
  priv : ∀ n o, ω.S[n]? = some (some o) → ¬ ω.B (ω.M n)
  held : ∀ a, ω.B a → ∃ o, ω.H a = some o
/-- what was frozen stays -/
structure Ev0 (K : PySem.W.Frag) (ω ω' : Wd) : Prop where
  len : ω.S.length ≤ ω'.S.length
  mp : ∀ n, n < ω.S.length → ω'.M n = ω.M n
  lst : ∀ a vs, ω.H a = some (.lst vs) → Frz ω a → ω'.H a = some (.lst vs) ∧ Frz ω' a
  dic : ∀ a ws, IsDk K ω a ws → IsDk K ω' a ws
  tup : ∀ a vs, ω.H a = some (.tup vs) → ω'.H a = some (.tup vs)
  lck : ∀ a o u, ω.H a = some (.frz o (.lst u)) → ω'.H a = some (.frz o (.lst u))
  xd : ∀ a vs, ω.H a = some (.xd vs) → ω'.H a = some (.xd vs)
/-- ω' comes behind ω -/
structure Ev (K : PySem.W.Frag) (ω ω' : Wd) : Prop extends Ev0 K ω ω' where
  pr : ω'.B = ω.B
  prH : ∀ a, ω.B a → ω'.H a = ω.H a
section
variable {K : PySem.W.Frag} {L : Lnk} {ω ω' ω'' : Wd}
theorem Ev.refl (ω : Wd) : Ev K ω ω := ⟨⟨Nat.le_refl _, fun _ _ => rfl, fun _ _ h f => ⟨h, f⟩, fun _ _ h => h, fun _ _ h => h, fun _ _ _ h => h, fun _ _ h => h⟩, rfl, fun _ _ => rfl⟩
theorem Ev0.trans (a : Ev0 K ω ω') (b : Ev0 K ω' ω'') : Ev0 K ω ω'' where
  len := Nat.le_trans a.len b.len
  mp := fun n h => (b.mp n (Nat.lt_of_lt_of_le h a.len)).trans (a.mp n h)
  lst := fun x o h f => let ⟨h1, f1⟩ := a.lst x o h f; b.lst x o h1 f1
  dic := fun x o h => b.dic x o (a.dic x o h)
  tup := fun x vs h => b.tup x vs (a.tup x vs h)
  lck := fun x o u h => b.lck x o u (a.lck x o u h)
  xd := fun x vs h => b.xd x vs (a.xd x vs h)
theorem Ev.trans (a : Ev K ω ω') (b : Ev K ω' ω'') : Ev K ω ω'' where
  len := Nat.le_trans a.len b.len
  mp := fun n h => (b.mp n (Nat.lt_of_lt_of_le h a.len)).trans (a.mp n h)
  pr := b.pr.trans a.pr
  prH := fun x h => (b.prH x (by rw [a.pr]; exact h)).trans (a.prH x h)
  lst := fun x o h f => let ⟨h1, f1⟩ := a.lst x o h f; b.lst x o h1 f1
  dic := fun x o h => b.dic x o (a.dic x o h)
  tup := fun x vs h => b.tup x vs (a.tup x vs h)
  lck := fun x o u h => b.lck x o u (a.lck x o u h)
  xd := fun x vs h => b.xd x vs (a.xd x vs h)
theorem IsL.m0 {a : Addr} {vs : List V} (e : Ev0 K ω ω') (h : IsL ω a vs) : IsL ω' a vs := e.lst _ _ h.1 h.2
theorem IsLk.m0 {a : Addr} {vs : List V} (e : Ev0 K ω ω') (h : IsLk K ω a vs) : IsLk K ω' a vs := by
  rcases h with ⟨o, h⟩ | h
  · exact .inl ⟨o, e.lck _ _ _ h⟩
  · exact .inr h
theorem IsT.m0 {a : Addr} {vs : List V} (e : Ev0 K ω ω') (h : IsT K ω a vs) : IsT K ω' a vs := by
  rcases h with h | h
  · exact .inl (e.tup _ _ h)
  · exact .inr h
theorem SqL.ofNo {a : Addr} {vs : List V} (H : Hp) (h : SqL K noH a vs) : SqL K H a vs := by
  rcases h with (h | ⟨o, h⟩) | h
  · cases h
  · cases h
  · exact .inr h
theorem SqT.ofNo {a : Addr} {vs : List V} (H : Hp) (h : SqT K noH a vs) : SqT K H a vs := by
  rcases h with (h | ⟨o, h⟩) | h
  · cases h
  · cases h
  · exact .inr h
theorem IsL.sq {a : Addr} {vs : List V} (h : IsL ω a vs) : SqL K ω.H a vs := .inl (.inl h.1)
theorem IsLk.sq {a : Addr} {vs : List V} (h : IsLk K ω a vs) : SqL K ω.H a vs := by
  rcases h with ⟨o, h⟩ | h
  · exact .inl (.inr ⟨o, h⟩)
  · exact SqL.ofNo _ h
theorem IsT.sq {a : Addr} {vs : List V} (h : IsT K ω a vs) : SqT K ω.H a vs := by
  rcases h with h | h
  · exact .inl (.inl h)
  · exact SqT.ofNo _ h
mutual
theorem RV.m0 (e : Ev0 K ω ω') : ∀ (d : D) {v : V}, RV K L ω d v → RV K L ω' d v
  | .non, _, h | .bl _, _, h | .int _, _, h | .str _, _, h | .ty _, _, h | .glo _, _, h | .xcp _ _, _, h => h
  | .ref n, _, ⟨h1, h2⟩ => ⟨Nat.lt_of_lt_of_le h1 e.len, by rw [h2, e.mp n h1]⟩
  | .tup ds, _, ⟨a, vs, h1, h2, h3⟩ => ⟨a, vs, h1, h2.m0 e, RVs.m0 e ds h3⟩
  | .lst ds, _, ⟨a, vs, h1, h2, h3⟩ => ⟨a, vs, h1, IsL.m0 e h2, RVs.m0 e ds h3⟩
  | .lck ds, _, ⟨a, vs, h1, h2, h3⟩ => ⟨a, vs, h1, h2.m0 e, RVs.m0 e ds h3⟩
  | .dct kvs, _, ⟨a, ws, h1, h2, h3⟩ => ⟨a, ws, h1, e.dic _ _ h2, RVk.m0 e kvs h3⟩
  | .kdc kvs, _, ⟨a, es, n, h1, h2, h3, h4⟩ => ⟨a, es, n, h1, h2, RVz.m0 e kvs h3, h4⟩
theorem RVs.m0 (e : Ev0 K ω ω') : ∀ (ds : List D) {vs : List V}, RVs K L ω ds vs → RVs K L ω' ds vs
  | [], _, h => h
  | d :: ds, _, ⟨v, r, h1, h2, h3⟩ => ⟨v, r, h1, RV.m0 e d h2, RVs.m0 e ds h3⟩
theorem RVk.m0 (e : Ev0 K ω ω') : ∀ (kvs : List (D × D)) {ws : List (Key × V)}, RVk K L ω kvs ws → RVk K L ω' kvs ws
  | [], _, h => h
  | (a, b) :: r, _, ⟨k, v, rest, h1, h2, h3, h4⟩ => ⟨k, v, rest, h1, h2, RV.m0 e b h3, RVk.m0 e r h4⟩
theorem RVz.m0 (e : Ev0 K ω ω') : ∀ (kvs : List (Sg × D)) {f : Str → Option (Option Value)}, RVz K L ω kvs f → RVz K L ω' kvs f
  | [], _, h => h
  | (x, d) :: r, _, ⟨⟨u, v, h1, h2, h3⟩, h4⟩ => ⟨⟨u, v, h1, h2, RV.m0 e d h3⟩, RVz.m0 e r h4⟩
end
theorem IsL.mono {a : Addr} {vs : List V} (e : Ev K ω ω') (h : IsL ω a vs) : IsL ω' a vs := IsL.m0 e.toEv0 h
theorem IsLk.mono {a : Addr} {vs : List V} (e : Ev K ω ω') (h : IsLk K ω a vs) : IsLk K ω' a vs := IsLk.m0 e.toEv0 h
theorem IsT.mono {a : Addr} {vs : List V} (e : Ev K ω ω') (h : IsT K ω a vs) : IsT K ω' a vs := IsT.m0 e.toEv0 h
theorem RV.mono (e : Ev K ω ω') (d : D) {v : V} (h : RV K L ω d v) : RV K L ω' d v := RV.m0 e.toEv0 d h
theorem RVs.mono (e : Ev K ω ω') (ds : List D) {vs : List V} (h : RVs K L ω ds vs) : RVs K L ω' ds vs := RVs.m0 e.toEv0 ds h
theorem RVk.mono (e : Ev K ω ω') (kvs : List (D × D)) {ws : List (Key × V)} (h : RVk K L ω kvs ws) : RVk K L ω' kvs ws := RVk.m0 e.toEv0 kvs h
theorem RVz.mono (e : Ev K ω ω') (kvs : List (Sg × D)) {f : Str → Option (Option Value)} (h : RVz K L ω kvs f) : RVz K L ω' kvs f := RVz.m0 e.toEv0 kvs h
theorem OR.m0 (e : Ev0 K ω ω') {a a' : Addr} {o : SO} (h : OR K L ω a o) (hH : ω'.H a = ω.H a) : OR K L ω' a o := by
  cases o with
  | lst ds => obtain ⟨vs, h1, h2⟩ := h; exact ⟨vs, by rw [hH]; exact h1, RVs.m0 e ds h2⟩
  | dct kvs lk =>
    cases lk with
    | false => obtain ⟨ws, h1, h2⟩ := h; exact ⟨ws, by rw [hH]; exact h1, RVk.m0 e kvs h2⟩
    | true => obtain ⟨od, ws, h1, h2⟩ := h; exact ⟨od, ws, by rw [hH]; exact h1, RVk.m0 e kvs h2⟩
  | ins c fs =>
    obtain ⟨dx, vs, h1, h2, h3, h4⟩ := h
    exact ⟨dx, vs, by rw [hH]; exact h1, h2, fun f d hf => let ⟨v, q, r⟩ := h3 f d hf; ⟨v, q, RV.m0 e d r⟩, h4⟩
theorem OR.mono (e : Ev K ω ω') {a a' : Addr} {o : SO} (h : OR K L ω a o) (hH : ω'.H a = ω.H a) : OR K L ω' a o := OR.m0 (a' := a') e.toEv0 h hH
theorem OR.some_ {a : Addr} {o : SO} (h : OR K L ω a o) : ∃ u, ω.H a = some u ∧ (∀ xs, u ≠ .tup xs) ∧ (∀ ob xs, u ≠ .frz ob (.lst xs)) ∧ (∀ xs, u ≠ .xd xs) := by
  cases o with
  | lst ds => obtain ⟨vs, h1, h2⟩ := h; exact ⟨_, h1, (fun _ z => nomatch z), (fun _ _ z => nomatch z), (fun _ z => nomatch z)⟩
  | dct kvs lk =>
    cases lk with
    | false => obtain ⟨ws, h1, h2⟩ := h; exact ⟨_, h1, (fun _ z => nomatch z), (fun _ _ z => nomatch z), (fun _ z => nomatch z)⟩
    | true => obtain ⟨od, ws, h1, h2⟩ := h; exact ⟨_, h1, (fun _ z => nomatch z), (fun _ _ z => by cases z), (fun _ z => nomatch z)⟩
  | ins c fs => obtain ⟨dx, vs, h1, h2⟩ := h; exact ⟨_, h1, (fun _ z => nomatch z), (fun _ _ z => nomatch z), (fun _ z => nomatch z)⟩
theorem RVs.length : ∀ {ds : List D} {vs : List V}, RVs K L ω ds vs → vs.length = ds.length
  | [], _, h => by cases h; rfl
  | d :: ds, _, ⟨v, r, h1, _, h3⟩ => by subst h1; simp [RVs.length h3]
theorem RVs.append : ∀ {ds es : List D} {vs us : List V}, RVs K L ω ds vs → RVs K L ω es us → RVs K L ω (ds ++ es) (vs ++ us)
  | [], _, _, _, h, q => by cases h; exact q
  | d :: ds, _, _, _, ⟨v, r, h1, h2, h3⟩, q => by subst h1; exact ⟨v, _, rfl, h2, RVs.append h3 q⟩
theorem RVs.get : ∀ {ds : List D} {vs : List V} {i : Nat} {d : D}, RVs K L ω ds vs → ds[i]? = some d → ∃ v, vs[i]? = some v ∧ RV K L ω d v
  | [], _, _, _, _, e => by simp at e
  | d :: ds, _, 0, _, ⟨v, r, h1, h2, h3⟩, e => by subst h1; simp at e; subst e; exact ⟨v, rfl, h2⟩
  | d :: ds, _, i + 1, x, ⟨v, r, h1, h2, h3⟩, e => by
    subst h1
    obtain ⟨u, q, z⟩ := RVs.get (i := i) (d := x) h3 (by simpa using e)
    exact ⟨u, by simpa using q, z⟩
theorem RVs.drop : ∀ {ds : List D} {vs : List V} (n : Nat), RVs K L ω ds vs → RVs K L ω (ds.drop n) (vs.drop n)
  | _, _, 0, h => by simpa using h
  | [], _, n + 1, h => by cases h; simp [RVs]
  | d :: ds, _, n + 1, ⟨v, r, h1, h2, h3⟩ => by subst h1; simpa using RVs.drop n h3
theorem RVs.take : ∀ {ds : List D} {vs : List V} (n : Nat), RVs K L ω ds vs → RVs K L ω (ds.take n) (vs.take n)
  | _, _, 0, h => by simp [RVs]
  | [], _, n + 1, h => by cases h; simp [RVs]
  | d :: ds, _, n + 1, ⟨v, r, h1, h2, h3⟩ => by subst h1; simp only [List.take_succ_cons]; exact ⟨v, _, rfl, h2, RVs.take n h3⟩
theorem RVs.reverse : ∀ {ds : List D} {vs : List V}, RVs K L ω ds vs → RVs K L ω ds.reverse vs.reverse
  | [], _, h => by cases h; simp [RVs]
  | d :: ds, _, ⟨v, r, h1, h2, h3⟩ => by
    subst h1
    simp only [List.reverse_cons]
    exact RVs.append (RVs.reverse h3) ⟨v, [], rfl, h2, rfl⟩
theorem RVs.set : ∀ {ds : List D} {vs : List V} (i : Nat) {d : D} {v : V}, RVs K L ω ds vs → RV K L ω d v → RVs K L ω (ds.set i d) (vs.set i v)
  | [], _, _, _, _, h, _ => by cases h; simp [RVs]
  | d :: ds, _, 0, _, _, ⟨v, r, h1, h2, h3⟩, q => by subst h1; exact ⟨_, _, rfl, q, h3⟩
  | d :: ds, _, i + 1, _, _, ⟨v, r, h1, h2, h3⟩, q => by subst h1; exact ⟨v, _, rfl, h2, RVs.set i h3 q⟩
theorem RVs.of_get : ∀ {ds : List D} {vs : List V}, vs.length = ds.length → (∀ (i : Nat) (d : D), ds[i]? = some d → ∃ v, vs[i]? = some v ∧ RV K L ω d v) → RVs K L ω ds vs
  | [], [], _, _ => rfl
  | [], _ :: _, e, _ => by simp at e
  | _ :: _, [], e, _ => by simp at e
  | d :: ds, v :: vs, e, h => by
    obtain ⟨u, h1, h2⟩ := h 0 d rfl
    simp at h1
    subst h1
    exact ⟨_, _, rfl, h2, RVs.of_get (by simpa using e) fun i x hx => by simpa using h (i + 1) x (by simpa using hx)⟩
/-! ### the world changes -/
/-- at p, where nothing stood, an object is laid -/
def Wd.lay (ω : Wd) (p : Addr) (o : HO) : Wd := { ω with H := upd ω.H p o }
theorem Rel.notB (r : Rel K L ω) {p : Addr} (hp : ω.H p = none) : ¬ ω.B p := fun z => by obtain ⟨o, e⟩ := r.held p z; rw [hp] at e; cases e
theorem Rel.notM (r : Rel K L ω) {p : Addr} (hp : ω.H p = none) {n : Nat} {o : SO} (h : ω.S[n]? = some (some o)) : ω.M n ≠ p := fun z => by
  obtain ⟨u, e, _⟩ := (r.live n o h).some_
  rw [z, hp] at e; cases e
theorem Ev.lay (r : Rel K L ω) {p : Addr} {o : HO} (hp : ω.H p = none) : Ev K ω (ω.lay p o) where
  len := Nat.le_refl _
  mp := fun _ _ => rfl
  pr := rfl
  prH := fun a h => upd_ne fun z => r.notB hp (z ▸ h)
  lst := fun a vs h f => ⟨(upd_ne (ne_of_none h hp)).trans h, f⟩
  dic := fun a ws ⟨h, f⟩ => ⟨by
    rcases h with h | ⟨o, h⟩
    · exact .inl ((upd_ne (ne_of_none h hp)).trans h)
    · exact .inr ⟨o, (upd_ne (ne_of_none h hp)).trans h⟩, f⟩
  tup := fun a vs h => (upd_ne (ne_of_none h hp)).trans h
  lck := fun a o u h => (upd_ne (ne_of_none h hp)).trans h
  xd := fun a vs h => (upd_ne (ne_of_none h hp)).trans h
theorem Rel.lay (r : Rel K L ω) {p : Addr} {o : HO} (hp : ω.H p = none) : Rel K L (ω.lay p o) where
  live := fun n u h => OR.mono (a' := 0) (Ev.lay r hp) (r.live n u h) (upd_ne (r.notM hp h))
  inj := r.inj
  priv := r.priv
  held := fun a h => by
    by_cases e : a = p
    · exact ⟨o, by subst e; exact upd_same⟩
    · obtain ⟨u, q⟩ := r.held a h
      exact ⟨u, (upd_ne e).trans q⟩
theorem Frz.new (r : Rel K L ω) {p : Addr} {o : HO} (hp : ω.H p = none) : Frz (ω.lay p o) p := ⟨fun n u h => r.notM hp h, r.notB hp⟩
theorem IsL.new (r : Rel K L ω) {p : Addr} {vs : List V} (hp : ω.H p = none) : IsL (ω.lay p (.lst vs)) p vs := ⟨upd_same, Frz.new r hp⟩
theorem IsT.new {p : Addr} {vs : List V} : IsT K (ω.lay p (.tup vs)) p vs := .inl upd_same
/-- a new live object -/
def Wd.laid (ω : Wd) (p : Addr) (o : HO) (u : SO) : Wd := ⟨ω.S ++ [some u], fun n => if n = ω.S.length then p else ω.M n, upd ω.H p o, ω.B⟩
theorem get_app {S : Mi.St} {u : SO} {n : Nat} {o : SO} (h : (S ++ [some u])[n]? = some (some o)) : (n < S.length ∧ S[n]? = some (some o)) ∨ (n = S.length ∧ o = u) := by
  by_cases hn : n < S.length
  · rw [List.getElem?_append_left hn] at h
    exact .inl ⟨hn, h⟩
  · rw [List.getElem?_append_right (by omega)] at h
    by_cases e : n = S.length
    · subst e
      simp at h
      exact .inr ⟨rfl, h.symm⟩
    · rw [List.getElem?_eq_none (by simp; omega)] at h
      cases h
theorem lt_of_get {S : Mi.St} {n : Nat} {o : SO} (h : S[n]? = some (some o)) : n < S.length := (List.getElem?_eq_some_iff.mp h).1
theorem Ev.laid (r : Rel K L ω) {p : Addr} {o : HO} {u : SO} (hp : ω.H p = none) : Ev K ω (ω.laid p o u) where
  len := by simp [Wd.laid]
  mp := fun n h => if_neg (Nat.ne_of_lt h)
  pr := rfl
  prH := fun a h => upd_ne fun z => r.notB hp (z ▸ h)
  lst := fun a vs h f => by
    refine ⟨(upd_ne (ne_of_none h hp)).trans h, fun n x hx => ?_, f.2⟩
    rcases get_app hx with ⟨hn, hx⟩ | ⟨hn, _⟩
    · rw [show (ω.laid p o u).M n = ω.M n from if_neg (Nat.ne_of_lt hn)]; exact f.1 n x hx
    · rw [show (ω.laid p o u).M n = p from if_pos hn]
      intro z
      rw [← z, hp] at h
      cases h
  dic := fun a ws ⟨h, f⟩ => by
    have hne : a ≠ p := by
      rcases h with h | ⟨o, h⟩
      · exact ne_of_none h hp
      · exact ne_of_none h hp
    refine ⟨?_, fun n x hx => ?_, f.2⟩
    · rcases h with h | ⟨o, h⟩
      · exact .inl ((upd_ne hne).trans h)
      · exact .inr ⟨o, (upd_ne hne).trans h⟩
    · rcases get_app hx with ⟨hn, hx⟩ | ⟨hn, _⟩
      · rw [show (ω.laid p o u).M n = ω.M n from if_neg (Nat.ne_of_lt hn)]; exact f.1 n x hx
      · rw [show (ω.laid p o u).M n = p from if_pos hn]; exact hne.symm
  tup := fun a vs h => (upd_ne (ne_of_none h hp)).trans h
  lck := fun a o u h => (upd_ne (ne_of_none h hp)).trans h
  xd := fun a vs h => (upd_ne (ne_of_none h hp)).trans h
theorem Rel.laid (r : Rel K L ω) {p : Addr} {o : HO} {u : SO} (hp : ω.H p = none) (new : OR K L (ω.laid p o u) p u) : Rel K L (ω.laid p o u) where
  live := fun n x hx => by
    rcases get_app hx with ⟨hn, hx⟩ | ⟨hn, e⟩
    · rw [show (ω.laid p o u).M n = ω.M n from if_neg (Nat.ne_of_lt hn)]
      exact OR.mono (a' := 0) (Ev.laid r hp) (r.live n x hx) (upd_ne (r.notM hp hx))
    · rw [show (ω.laid p o u).M n = p from if_pos hn, e]; exact new
  inj := fun n m x y hx hy e => by
    rcases get_app hx with ⟨hn, hx⟩ | ⟨hn, _⟩ <;> rcases get_app hy with ⟨hm, hy⟩ | ⟨hm, _⟩
    · rw [show (ω.laid p o u).M n = ω.M n from if_neg (Nat.ne_of_lt hn), show (ω.laid p o u).M m = ω.M m from if_neg (Nat.ne_of_lt hm)] at e
      exact r.inj n m x y hx hy e
    · rw [show (ω.laid p o u).M n = ω.M n from if_neg (Nat.ne_of_lt hn), show (ω.laid p o u).M m = p from if_pos hm] at e
      exact absurd e (r.notM hp hx)
    · rw [show (ω.laid p o u).M n = p from if_pos hn, show (ω.laid p o u).M m = ω.M m from if_neg (Nat.ne_of_lt hm)] at e
      exact absurd e.symm (r.notM hp hy)
    · omega
  priv := fun n x hx => by
    rcases get_app hx with ⟨hn, hx⟩ | ⟨hn, _⟩
    · rw [show (ω.laid p o u).M n = ω.M n from if_neg (Nat.ne_of_lt hn)]; exact r.priv n x hx
    · rw [show (ω.laid p o u).M n = p from if_pos hn]; exact r.notB hp
  held := fun a h => by
    by_cases e : a = p
    · exact ⟨o, by subst e; exact upd_same⟩
    · obtain ⟨u, q⟩ := r.held a h
      exact ⟨u, (upd_ne e).trans q⟩
/-- a live object changed -/
def Wd.put (ω : Wd) (n : Nat) (o : HO) (u : SO) : Wd := ⟨ω.S.set n (some u), ω.M, upd ω.H (ω.M n) o, ω.B⟩
theorem get_set {S : Mi.St} {u : SO} {n m : Nat} {o : SO} (h : (S.set n (some u))[m]? = some (some o)) : (m ≠ n ∧ S[m]? = some (some o)) ∨ (m = n ∧ o = u) := by
  by_cases e : m = n
  · subst e
    by_cases hm : m < S.length
    · rw [List.getElem?_set_self hm] at h
      exact .inr ⟨rfl, by cases h; rfl⟩
    · rw [List.getElem?_eq_none (by simpa using hm)] at h
      cases h
  · rw [List.getElem?_set_ne (Ne.symm e)] at h
    exact .inl ⟨e, h⟩
theorem Ev.put (r : Rel K L ω) {n : Nat} {o : HO} {u x : SO} (hn : ω.S[n]? = some (some x)) : Ev K ω (ω.put n o u) := by
  have hM : ∀ a, Frz ω a → a ≠ ω.M n := fun a f z => f.1 n x hn z.symm
  have fr : ∀ a, Frz ω a → Frz (ω.put n o u) a := fun a f => ⟨fun m y hy => by
    rcases get_set hy with ⟨_, hy⟩ | ⟨e, _⟩
    · exact f.1 m y hy
    · subst e; exact f.1 m x hn, f.2⟩
  obtain ⟨w, hw, nt, nf, nx⟩ := (r.live n x hn).some_
  refine ⟨⟨by simp [Wd.put], fun _ _ => rfl, fun a vs h f => ⟨(upd_ne (hM a f)).trans h, fr a f⟩, fun a ws ⟨h, f⟩ => ⟨?_, fr a f⟩, fun a vs h => (upd_ne fun z => ?_).trans h, fun a ob v h => (upd_ne fun z => ?_).trans h, fun a v h => (upd_ne fun z => ?_).trans h⟩, rfl, fun a h => upd_ne fun z => r.priv n x hn (z ▸ h)⟩
  · rcases h with h | ⟨o, h⟩
    · exact .inl ((upd_ne (hM a f)).trans h)
    · exact .inr ⟨o, (upd_ne (hM a f)).trans h⟩
  · rw [z, hw] at h; exact nt vs (Option.some.inj h)
  · rw [z, hw] at h; exact nf ob v (Option.some.inj h)
  · rw [z, hw] at h; exact nx v (Option.some.inj h)
theorem Rel.put (r : Rel K L ω) {n : Nat} {o : HO} {u x : SO} (hn : ω.S[n]? = some (some x)) (new : OR K L (ω.put n o u) (ω.M n) u) : Rel K L (ω.put n o u) where
  live := fun m y hy => by
    rcases get_set hy with ⟨ne, hy⟩ | ⟨e, e2⟩
    · exact OR.mono (a' := 0) (Ev.put r hn) (r.live m y hy) (upd_ne fun z => ne (r.inj m n y x hy hn z))
    · rw [e, e2]; exact new
  inj := fun m l y z hy hz e => by
    have q : ∀ {m y}, (ω.put n o u).S[m]? = some (some y) → ∃ y', ω.S[m]? = some (some y') := fun {m y} hy => by
      rcases get_set hy with ⟨_, hy⟩ | ⟨e, _⟩
      · exact ⟨y, hy⟩
      · exact ⟨x, e ▸ hn⟩
    obtain ⟨y', hy'⟩ := q hy
    obtain ⟨z', hz'⟩ := q hz
    exact r.inj m l y' z' hy' hz' e
  priv := fun m y hy => by
    rcases get_set hy with ⟨_, hy⟩ | ⟨e, _⟩
    · exact r.priv m y hy
    · rw [e]; exact r.priv n x hn
  held := fun a h => by
    by_cases e : a = ω.M n
    · exact ⟨o, by subst e; exact upd_same⟩
    · obtain ⟨u, q⟩ := r.held a h
      exact ⟨u, (upd_ne e).trans q⟩
end
end Mi
namespace Mi
open PySem L2
section
variable {K : PySem.W.Frag} {L : Lnk} {ω ω' : Wd}
/-- what a computation gives, from the world ω: a good end, an exception's end -/
def Rn {α : Type} (K : PySem.W.Frag) (L : Lnk) (m : Re α) (J : Wd → α → Prop) (JX : Wd → Nat → List (Sg × D) → Prop) (ω : Wd) : Prop := match m with
  | .ok a S => ∀ ω', Ev K ω ω' → Rel K L ω' → ω'.S = S → J ω' a
  | .exc c fs S => ∀ ω', Ev K ω ω' → Rel K L ω' → ω'.S = S → JX ω' c fs
  | .stuck => False
variable {α β : Type} {m : Re α} {J J' : Wd → α → Prop} {JX : Wd → Nat → List (Sg × D) → Prop}
theorem Rn.imp (h : Rn K L m J JX ω) (k : ∀ ω' a, Ev K ω ω' → Rel K L ω' → J ω' a → J' ω' a) : Rn K L m J' JX ω := by
  cases m with
  | ok a S => exact fun ω' e r q => k ω' a e r (h ω' e r q)
  | exc c fs S => exact h
  | stuck => exact h
theorem Rn.bnd {f : α → Mi.St → Re β} {J : Wd → β → Prop} (h : Rn K L (m.bnd f) J JX ω) : Rn K L m (fun ω1 a => Rn K L (f a ω1.S) J JX ω1) JX ω := by
  cases m with
  | ok a S =>
    intro ω1 e r q
    subst q
    have h : Rn K L (f a ω1.S) J JX ω := h
    cases hf : f a ω1.S with
    | ok b S2 => rw [hf] at h; exact fun ω2 e2 r2 q2 => h ω2 (e.trans e2) r2 q2
    | exc c fs S2 => rw [hf] at h; exact fun ω2 e2 r2 q2 => h ω2 (e.trans e2) r2 q2
    | stuck => rw [hf] at h; exact h
  | exc c fs S => exact h
  | stuck => exact h
theorem Rn.nox {JX' : Wd → Nat → List (Sg × D) → Prop} (h : Rn K L m.nox J JX ω) : Rn K L m J JX' ω := by
  cases m with
  | ok a S => exact h
  | exc c fs S => exact h.elim
  | stuck => exact h.elim
/-- at the same world -/
theorem Rn.here {a : α} (h : Rn K L (.ok a ω.S) J JX ω) (r : Rel K L ω) : J ω a := h ω (Ev.refl ω) r rfl
theorem Rn.lift {o : Option α} (h : Rn K L (lift o ω.S) J JX ω) : ∃ a, o = some a ∧ Rn K L (.ok a ω.S) J JX ω := by
  cases o with
  | some a => exact ⟨a, rfl, h⟩
  | none => exact h.elim
/-- an exception's own fields -/
def XR (K : PySem.W.Frag) (L : Lnk) (ω : Wd) (fs : List (Sg × D)) (dx : Option Addr) : Prop :=
  (fs = [] ∧ dx = none) ∨ ∃ a vs, dx = some a ∧ ω.H a = some (.xd vs) ∧ ∀ f d, fs.lookup f = some d → ∃ v, vs.lookup (toStr f) = some v ∧ RV K L ω d v
theorem XR.m0 {fs : List (Sg × D)} {dx : Option Addr} (e : Ev0 K ω ω') (h : XR K L ω fs dx) : XR K L ω' fs dx := by
  rcases h with h | ⟨a, vs, h1, h2, h3⟩
  · exact .inl h
  · exact .inr ⟨a, vs, h1, e.xd a vs h2, fun f d q => let ⟨v, a, b⟩ := h3 f d q; ⟨v, a, RV.m0 e d b⟩⟩
/-- the exception in hand, while its name has not been given away -/
def HotR (K : PySem.W.Frag) (L : Lnk) (ω : Wd) (e : Mi.Env) (σ : List (Option V)) : Prop := ∀ h, L.hot = some h → XR K L ω h.fs h.dx ∧ (isHole e h.i = true → σ[h.i]? = some (some (.ref h.a)))
/-- the slots hold what the environment says -/
def EnvR (K : PySem.W.Frag) (L : Lnk) (ω : Wd) (e : Mi.Env) (σ : List (Option V)) : Prop := (e.length = σ.length ∧ ∀ (i : Nat) (d : D), e[i]? = some (some d) → ∃ v, σ[i]? = some (some v) ∧ RV K L ω d v) ∧ HotR K L ω e σ
theorem EnvR.m0 {e : Mi.Env} {σ : List (Option V)} (x : Ev0 K ω ω') (h : EnvR K L ω e σ) : EnvR K L ω' e σ := ⟨⟨h.1.1, fun i d q => let ⟨v, a, b⟩ := h.1.2 i d q; ⟨v, a, RV.m0 x d b⟩⟩, fun t ht => let ⟨a, b⟩ := h.2 t ht; ⟨a.m0 x, b⟩⟩
theorem EnvR.mono {e : Mi.Env} {σ : List (Option V)} (x : Ev K ω ω') (h : EnvR K L ω e σ) : EnvR K L ω' e σ := h.m0 x.toEv0
theorem EnvR.set {e : Mi.Env} {σ : List (Option V)} {i : Nat} {d : D} {v : V} (h : EnvR K L ω e σ) (r : RV K L ω d v) : EnvR K L ω (e.set i (some d)) (σ.set i (some v)) := by
  refine ⟨⟨by simp [h.1.1], fun j x q => ?_⟩, fun t ht => ⟨(h.2 t ht).1, fun ho => ?_⟩⟩
  · by_cases hj : i = j
    · subst hj
      by_cases hl : i < e.length
      · rw [List.getElem?_set_self hl] at q
        have hd : d = x := by simpa using q
        subst hd
        exact ⟨v, by rw [List.getElem?_set_self (by rw [← h.1.1]; exact hl)], r⟩
      · rw [List.getElem?_eq_none (by simpa using hl)] at q
        cases q
    · rw [List.getElem?_set_ne hj] at q
      obtain ⟨u, a, b⟩ := h.1.2 j x q
      exact ⟨u, by rw [List.getElem?_set_ne hj]; exact a, b⟩
  · by_cases hj : i = t.i
    · subst hj
      by_cases hl : t.i < e.length
      · rw [isHole, List.getElem?_set_self hl] at ho; cases ho
      · rw [isHole, List.getElem?_eq_none (by simpa using hl)] at ho; cases ho
    · rw [isHole, List.getElem?_set_ne hj] at ho
      rw [List.getElem?_set_ne hj]
      exact (h.2 t ht).2 ho
theorem EnvR.unset {e : Mi.Env} {σ : List (Option V)} {i : Nat} (hn : L.hot = none) (h : EnvR K L ω e σ) : EnvR K L ω (e.set i none) (σ.set i none) := by
  refine ⟨⟨by simp [h.1.1], fun j x q => ?_⟩, fun t ht => by rw [hn] at ht; cases ht⟩
  by_cases hj : i = j
  · subst hj
    by_cases hl : i < e.length
    · rw [List.getElem?_set_self hl] at q; cases q
    · rw [List.getElem?_eq_none (by simpa using hl)] at q; cases q
  · rw [List.getElem?_set_ne hj] at q
    obtain ⟨u, a, b⟩ := h.1.2 j x q
    exact ⟨u, by rw [List.getElem?_set_ne hj]; exact a, b⟩
theorem EnvR.wipe {e : Mi.Env} {σ : List (Option V)} (hn : L.hot = none) (h : EnvR K L ω e σ) : ∀ own : List Nat, EnvR K L ω (Mi.wipe e own) (L2.wipe σ own)
  | [] => h
  | v :: vs => EnvR.unset hn (EnvR.wipe hn h vs)
def JXof (K : PySem.W.Frag) (L : Lnk) (W : WX) (σ : L2.St) : Wd → Nat → List (Sg × D) → Prop := fun ω c fs => ∀ dx, XR K L ω fs dx → W (.ref (L.ga c)) dx σ ω.H
end
/-- all that the interpreter leans on -/
structure Cn where
  L : Lnk
  P : Pg
  F : Fns
section
variable (K : PySem.W.Frag) (C : Cn) (W : WX)
def tE (c : CE) : TE := fun σ H Q => ∃ ω e, ω.H = H ∧ Rel K C.L ω ∧ EnvR K C.L ω e σ ∧ Rn K C.L (evE C.P C.F c e ω.S) (fun ω' d => ∀ v, RV K C.L ω' d v → Q v ω'.H) (JXof K C.L W σ) ω
def tT (c : CE) : TT := fun σ H Q => ∃ ω e, ω.H = H ∧ Rel K C.L ω ∧ EnvR K C.L ω e σ ∧ Rn K C.L (tB (evE C.P C.F c e ω.S)) (fun ω' b => Q b ω'.H) (JXof K C.L W σ) ω
def tA (cs : List CE) : TA := fun σ H Q => ∃ ω e, ω.H = H ∧ Rel K C.L ω ∧ EnvR K C.L ω e σ ∧ Rn K C.L (evEs C.P C.F cs e ω.S) (fun ω' ds => ∀ vs, RVs K C.L ω' ds vs → Q vs ω'.H) (JXof K C.L W σ) ω
def tO (c : Option CE) : TO := fun σ H Q => ∃ ω e, ω.H = H ∧ Rel K C.L ω ∧ EnvR K C.L ω e σ ∧ Rn K C.L (evO C.P C.F c e ω.S) (fun ω' o => Q o ω'.H) (JXof K C.L W σ) ω
end
section
variable {C : Cn} {W : WX} {X : Cx} {ex : Expr}
/-- from a rule of the layer -/
theorem tE.of {t : TE} {c : CE} (h : PE X ex t) (k : ∀ ω e σ Q, Rel X.K C.L ω → EnvR X.K C.L ω e σ → Rn X.K C.L (evE C.P C.F c e ω.S) (fun ω' d => ∀ v, RV X.K C.L ω' d v → Q v ω'.H) (JXof X.K C.L W σ) ω → t σ ω.H Q) : PE X ex (tE X.K C W c) :=
  ⟨fun pins s σ H Q I ⟨ω, e, hH, r, er, hn⟩ => by subst hH; exact h.run pins s σ ω.H Q I (k ω e σ Q r er hn)⟩
theorem tE.imp {t : TE} {c : CE} (h : PE X ex t) (k : ∀ σ H Q, tE X.K C W c σ H Q → t σ H Q) : PE X ex (tE X.K C W c) := ⟨fun pins s σ H Q I q => h.run pins s σ H Q I (k σ H Q q)⟩
theorem tT.imp {t : TT} {c : CE} (h : PT X ex t) (k : ∀ σ H Q, tT X.K C W c σ H Q → t σ H Q) : PT X ex (tT X.K C W c) := ⟨fun pins s σ H Q I q => h.run pins s σ H Q I (k σ H Q q)⟩
theorem tT.of {t : TT} {c : CE} (h : PT X ex t) (k : ∀ ω e σ Q, Rel X.K C.L ω → EnvR X.K C.L ω e σ → Rn X.K C.L (tB (evE C.P C.F c e ω.S)) (fun ω' b => Q b ω'.H) (JXof X.K C.L W σ) ω → t σ ω.H Q) : PT X ex (tT X.K C W c) :=
  ⟨fun pins s σ H Q I ⟨ω, e, hH, r, er, hn⟩ => by subst hH; exact h.run pins s σ ω.H Q I (k ω e σ Q r er hn)⟩
/-! ### names and constants -/
theorem s_var {i : Nat} {x : Str} {pos : Pos} (hN : X.N[i]? = some x) (hv : Vis X.env.scope x) (hd : (x == ("__debug__" : Str)) = false) (hcd : (x == ("__classdict__" : Str)) = false) : PE X (.Name x pos) (tE X.K C W (.var i)) := by
  refine tE.of (pe_var hN hv hd hcd) fun ω e σ Q r er h => ?_
  obtain ⟨d, h1, h2⟩ := Rn.lift h
  have h3 : e[i]? = some (some d) := by
    cases q : e[i]? with
    | none => rw [q] at h1; cases h1
    | some o => rw [q] at h1; exact congrArg some h1
  obtain ⟨v, h4, h5⟩ := er.1.2 i d h3
  exact ⟨v, h4, h2.here r v h5⟩
theorem s_int {i : Int} {j pos} : PE X (.Constant (.int i) j pos) (tE X.K C W (.cst (.int i))) := tE.of pe_int fun ω e σ Q r er h => Rn.here h r _ rfl
theorem s_bl {b : Bool} {j pos} : PE X (.Constant (.bool b) j pos) (tE X.K C W (.cst (.bl b))) := tE.of pe_bl fun ω e σ Q r er h => Rn.here h r _ rfl
theorem s_non {j pos} : PE X (.Constant .none j pos) (tE X.K C W (.cst .non)) := tE.of pe_non fun ω e σ Q r er h => Rn.here h r _ rfl
theorem toStr_list (x : Str) : toStr x.cps.toList = x := by
  obtain ⟨c⟩ := x
  simp [toStr]
theorem s_str {x : Str} {j pos} (hx : okS x.cps.toList) : PE X (.Constant (.str x) j pos) (tE X.K C W (.cst (.str x.cps.toList))) :=
  tE.of pe_str fun ω e σ Q r er h => Rn.here h r _ ⟨by rw [toStr_list], hx⟩
end
end Mi
end
section
set_option Elab.async false
set_option linter.all false
set_option maxRecDepth 100000
set_option maxHeartbeats 4000000
/-! Operators on data and in the model. -/
namespace Mi
open PySem L2
section
variable {L : Lnk} {X : Cx} {ω : Wd}
theorem asM_R {K : PySem.W.Frag} {L : Lnk} (r : Rel K L ω) {d : D} {v : V} {ds : List D} (h : asM ω.S d = some ds) (rv : RV K L ω d v) : ∃ a vs, v = .ref a ∧ ω.H a = some (.lst vs) ∧ RVs K L ω ds vs := by
  unfold asM at h
  split at h
  · cases h
    obtain ⟨a, vs, h1, h2, h3⟩ := rv
    exact ⟨a, vs, h1, h2.1, h3⟩
  · split at h
    · rename_i n ds' hn
      cases h
      obtain ⟨vs, h1, h2⟩ := r.live _ _ hn
      exact ⟨_, vs, rv.2, h1, h2⟩
    · cases h
  · cases h
theorem asL_R {K : PySem.W.Frag} {L : Lnk} (r : Rel K L ω) {d : D} {v : V} {ds : List D} (h : asL ω.S d = some ds) (rv : RV K L ω d v) : ∃ a vs, v = .ref a ∧ SqL K ω.H a vs ∧ RVs K L ω ds vs := by
  unfold asL at h
  split at h
  · cases h
    obtain ⟨a, vs, h1, h2, h3⟩ := rv
    exact ⟨a, vs, h1, h2.sq, h3⟩
  · cases h
    obtain ⟨a, vs, h1, h2, h3⟩ := rv
    exact ⟨a, vs, h1, h2.sq, h3⟩
  · split at h
    · rename_i n ds' hn
      cases h
      obtain ⟨vs, h1, h2⟩ := r.live _ _ hn
      exact ⟨_, vs, rv.2, .inl (.inl h1), h2⟩
    · cases h
  · cases h
theorem asSeq_R {K : PySem.W.Frag} {L : Lnk} (r : Rel K L ω) {d : D} {v : V} {ds : List D} (h : asSeq ω.S d = some ds) (rv : RV K L ω d v) : ∃ a vs, v = .ref a ∧ (SqL K ω.H a vs ∨ SqT K ω.H a vs) ∧ RVs K L ω ds vs := by
  unfold asSeq at h
  split at h
  · cases h
    obtain ⟨a, vs, h1, h2, h3⟩ := rv
    exact ⟨a, vs, h1, .inr h2.sq, h3⟩
  · obtain ⟨a, vs, h1, h2, h3⟩ := asL_R r h rv
    exact ⟨a, vs, h1, .inl h2, h3⟩
theorem lim_line : LIM = sizeLine := by rw [sizeLine_eq]
theorem toStr_length (x : Sg) : (toStr x).length = x.length := by simp [toStr, Str.length]
theorem toStr_append (x y : Sg) : toStr (x ++ y) = toStr x ++ toStr y := by
  show (⟨(x ++ y).toArray⟩ : Str) = ⟨x.toArray ++ y.toArray⟩
  simp
theorem toStr_cps (x : Sg) : (toStr x).cps.toList = x := by simp [toStr]
theorem toStr_inj {x y : Sg} (h : toStr x = toStr y) : x = y := by
  have := congrArg (fun s : Str => s.cps.toList) h
  simpa [toStr] using this
theorem okS_append {x y : Sg} (hx : okS x) (hy : okS y) (hl : x.length + y.length ≤ LIM) : okS (x ++ y) := by
  obtain ⟨h1, _⟩ := hx
  obtain ⟨h2, _⟩ := hy
  refine ⟨?_, by simpa using hl⟩
  simp only [PyData.strOk, toStr, List.all_toArray, List.all_append, Bool.and_eq_true] at *
  exact ⟨h1, h2⟩
/-- two values by an operation of data -/
def rV2 (K : PySem.W.Frag) (L : Lnk) (op : Mi.St → D → D → Option D) : R2 := fun x y H Q => ∃ ω d1 d2 d, ω.H = H ∧ Rel K L ω ∧ RV K L ω d1 x ∧ RV K L ω d2 y ∧ op ω.S d1 d2 = some d ∧ ∀ ω' v, Ev K ω ω' → Rel K L ω' → ω'.S = ω.S → RV K L ω' d v → Q v ω'.H
/-- a new list -/
theorem new_lst {K : PySem.W.Frag} {L : Lnk} (r : Rel K L ω) {ds : List D} {vs : List V} (rv : RVs K L ω ds vs) {Q : VK} (h : ∀ ω' v, Ev K ω ω' → Rel K L ω' → ω'.S = ω.S → RV K L ω' (.lst ds) v → Q v ω'.H) : ∀ p, ω.H p = none → Q (.ref p) (upd ω.H p (.lst vs)) := fun p hp =>
  h (ω.lay p (.lst vs)) (.ref p) (Ev.lay r hp) (Rel.lay r hp) rfl ⟨p, vs, rfl, IsL.new r hp, RVs.mono (Ev.lay r hp) ds rv⟩
theorem new_tup {K : PySem.W.Frag} {L : Lnk} (r : Rel K L ω) {ds : List D} {vs : List V} (rv : RVs K L ω ds vs) {Q : VK} (h : ∀ ω' v, Ev K ω ω' → Rel K L ω' → ω'.S = ω.S → RV K L ω' (.tup ds) v → Q v ω'.H) : ∀ p, ω.H p = none → Q (.ref p) (upd ω.H p (.tup vs)) := fun p hp =>
  h (ω.lay p (.tup vs)) (.ref p) (Ev.lay r hp) (Rel.lay r hp) rfl ⟨p, vs, rfl, IsT.new, RVs.mono (Ev.lay r hp) ds rv⟩
theorem RVs.nil_iff {K : PySem.W.Frag} {L : Lnk} {ds : List D} {vs : List V} (h : RVs K L ω ds vs) : vs = [] ↔ ds = [] := by
  have e := h.length
  constructor
  · rintro rfl
    exact List.length_eq_zero_iff.mp e.symm
  · rintro rfl
    exact List.length_eq_zero_iff.mp e
theorem o_add : OpR X (binaryOp .Add) (rV2 X.K L fun S => addOp S) := by
  intro pins s σ H x y v u Q I rx ry h
  obtain ⟨ω, d1, d2, d, rfl, r, r1, r2, ho, k⟩ := h
  have here : ∀ {v}, RV X.K L ω d v → Q v ω.H := fun {v} q => k ω v (Ev.refl ω) r rfl q
  have ho : addOp ω.S d1 d2 = some d := ho
  unfold addOp at ho
  split at ho
  · cases ho
    cases (show x = _ from r1)
    cases (show y = _ from r2)
    exact op_add pins s σ _ _ _ v u Q I rx ry ⟨_, _, rfl, rfl, here rfl⟩
  · split at ho
    · rename_i hl
      cases ho
      obtain ⟨e1, o1⟩ := r1
      obtain ⟨e2, o2⟩ := r2
      subst e1
      subst e2
      refine op_add_str pins s σ _ _ _ v u Q I rx ry ⟨_, _, rfl, rfl, by rw [toStr_length, toStr_length, ← lim_line]; exact hl, ?_⟩
      exact here ⟨by rw [toStr_append], okS_append o1 o2 hl⟩
    · cases ho
  · split at ho
    · rename_i hl
      cases ho
      obtain ⟨a, vs, e1, t1, q1⟩ := r1
      obtain ⟨b, us, e2, t2, q2⟩ := r2
      subst e1
      subst e2
      refine op_catA pins s σ _ _ _ v u Q I rx ry ⟨a, b, vs, us, rfl, rfl, t1.sq, t2.sq, by rw [q1.length, q2.length, ← lim_line]; exact hl, fun z => ?_, fun z1 z2 => ?_, fun z1 z2 => new_tup r (q1.append q2) k⟩
      · have z' := q1.nil_iff.mp z
        subst z'
        exact here ⟨b, us, rfl, t2, by simpa using q2⟩
      · have z' := q2.nil_iff.mp z2
        subst z'
        exact here ⟨a, vs, rfl, t1, by simpa using q1⟩
    · cases ho
  · rename_i a b h1 h2 h3
    cases e1 : asM ω.S d1 with
    | none => rw [e1] at ho; cases ho
    | some xs =>
      cases e2 : asM ω.S d2 with
      | none => rw [e1, e2] at ho; cases ho
      | some ys =>
        rw [e1, e2] at ho
        simp only [Option.bind_some] at ho
        split at ho
        · rename_i hl
          cases ho
          obtain ⟨a, vs, rfl, ha, q1⟩ := asM_R r e1 r1
          obtain ⟨b, us, rfl, hb, q2⟩ := asM_R r e2 r2
          exact op_cat pins s σ _ _ _ v u Q I rx ry ⟨a, b, vs, us, rfl, rfl, ha, hb, by rw [q1.length, q2.length, ← lim_line]; exact hl, new_lst r (q1.append q2) k⟩
        · cases ho
theorem o_int {op : Operator} {f : Int → Int → Option Int} {r2 : R2} (ho : OpR X (binaryOp op) r2) (hr : ∀ i j k (H : Hp) (Q : VK), f i j = some k → Q (.int k) H → r2 (.int i) (.int j) H Q) : OpR X (binaryOp op) (rV2 X.K L fun _ => intOp f) := by
  intro pins s σ H x y v u Q I rx ry h
  obtain ⟨ω, d1, d2, d, rfl, r, r1, r2, ho0, k⟩ := h
  have ho' : intOp f d1 d2 = some d := ho0
  clear ho0
  unfold intOp at ho'
  split at ho'
  · rename_i i j
    cases e : f i j with
    | none => rw [e] at ho'; cases ho'
    | some n =>
      rw [e] at ho'
      cases ho'
      cases (show x = _ from r1)
      cases (show y = _ from r2)
      exact ho pins s σ _ _ _ v u Q I rx ry (hr _ _ _ _ _ e (k ω _ (Ev.refl ω) r rfl rfl))
  · cases ho'
theorem o_sub : OpR X (binaryOp .Sub) (rV2 X.K L fun _ => intOp fun i j => some (i - j)) := o_int op_sub fun i j k H Q e q => by
  cases e
  exact ⟨_, _, rfl, rfl, q⟩
theorem o_fdiv : OpR X (binaryOp .FloorDiv) (rV2 X.K L fun _ => intOp fdivI) := o_int op_fdiv fun i j k H Q e q => by
  unfold fdivI at e
  split at e
  · rename_i h
    cases e
    exact ⟨_, _, rfl, rfl, h, q⟩
  · cases e
theorem o_mod : OpR X (binaryOp .Mod) (rV2 X.K L fun _ => intOp modI) := o_int op_mod fun i j k H Q e q => by
  unfold modI at e
  split at e
  · rename_i h
    cases e
    exact ⟨_, _, rfl, rfl, h, q⟩
  · cases e
theorem o_pow : OpR X (binaryOp .Pow) (rV2 X.K L fun _ => intOp powI) := o_int op_pow fun i j k H Q e q => by
  unfold powI at e
  split at e
  · rename_i h
    cases e
    refine ⟨_, _, rfl, rfl, ⟨h.1, by omega, ?_⟩, q⟩
    have h1 := h.2.2.1
    have h2 := h.2.2.2
    unfold P64 at h1 h2
    omega
  · cases e
theorem o_mul : OpR X (binaryOp .Mult) (rV2 X.K L fun S => mulOp S) := by
  intro pins s σ H x y v u Q I rx ry h
  obtain ⟨ω, d1, d2, d, rfl, r, r1, r2, ho, k⟩ := h
  have ho : mulOp ω.S d1 d2 = some d := ho
  unfold mulOp at ho
  split at ho
  · split at ho
    · rename_i h
      cases ho
      cases (show x = _ from r1)
      cases (show y = _ from r2)
      refine op_mul pins s σ _ _ _ v u Q I rx ry ⟨_, _, rfl, rfl, ?_, k ω _ (Ev.refl ω) r rfl rfl⟩
      unfold CMul
      unfold P64 at h
      omega
    · cases ho
  · rename_i n hne z
    cases e1 : asM ω.S d1 with
    | none => rw [e1] at ho; cases ho
    | some xs =>
      rw [e1] at ho
      simp only [Option.bind_some] at ho
      split at ho
      · rename_i h
        cases ho
        obtain ⟨a, vs, rfl, ha, q1⟩ := asM_R r e1 r1
        cases (show y = _ from r2)
        have hrep : RVs X.K L ω (List.replicate n.toNat xs).flatten (List.replicate n.toNat vs).flatten := by
          generalize n.toNat = m
          induction m with
          | zero => exact rfl
          | succ m ih => simp only [List.replicate_succ, List.flatten_cons]; exact q1.append ih
        refine op_rep pins s σ _ _ _ v u Q I rx ry ⟨a, n, vs, rfl, rfl, ha, by omega, ?_, by rw [q1.length, ← lim_line]; exact h.2.2, new_lst r hrep k⟩
        have h2 := h.2.1
        unfold P64 at h2
        omega
      · cases ho
  · cases ho
def opP : Bop → Operator
  | .add => .Add | .sub => .Sub | .mul => .Mult | .fdiv => .FloorDiv | .mod => .Mod | .pow => .Pow
theorem o_bin (o : Bop) : OpR X (binaryOp (opP o)) (rV2 X.K L fun S => binOp S o) := by
  cases o with
  | add => exact o_add
  | sub => exact o_sub
  | mul => exact o_mul
  | fdiv => exact o_fdiv
  | mod => exact o_mod
  | pow => exact o_pow
/-! ### comparisons -/
mutual
theorem flat_Dp {K : PySem.W.Frag} : ∀ (n : Nat) (d : D) (v : V), flatD n d = true → RV K L ω d v → Dp K ω.H v (pd d) ∧ (pd d).canLay0 = true ∧ (pd d).depth ≤ n
  | n, .non, _, _, h => by cases h; exact ⟨.non, rfl, by cases n <;> simp [pd, PyData.depth]⟩
  | n, .bl b, _, _, h => by cases h; exact ⟨.bl b, rfl, by cases n <;> simp [pd, PyData.depth]⟩
  | n, .int i, _, _, h => by cases h; exact ⟨.int i, rfl, by cases n <;> simp [pd, PyData.depth]⟩
  | n, .str x, _, _, ⟨h, o⟩ => by subst h; exact ⟨.str _, o.1, by cases n <;> simp [pd, PyData.depth]⟩
  | n + 1, .tup ds, _, hf, ⟨a, vs, h1, h2, h3⟩ => by
    subst h1
    obtain ⟨q1, q2, q3⟩ := flat_DpAll n ds vs (by simpa [flatD] using hf) h3
    exact ⟨.tup h2.sq q1, by simpa [pd, PyData.canLay0] using q2, by simp only [pd, PyData.depth]; omega⟩
  | n + 1, .lst ds, _, hf, ⟨a, vs, h1, h2, h3⟩ => by
    subst h1
    obtain ⟨q1, q2, q3⟩ := flat_DpAll n ds vs (by simpa [flatD] using hf) h3
    exact ⟨.lst h2.sq q1, by simpa [pd, PyData.canLay0] using q2, by simp only [pd, PyData.depth]; omega⟩
  | 0, .tup _, _, hf, _ => by simp [flatD] at hf
  | 0, .lst _, _, hf, _ => by simp [flatD] at hf
  | n, .lck _, _, hf, _ => by cases n <;> simp [flatD] at hf
  | n, .ty _, _, hf, _ => by cases n <;> simp [flatD] at hf
  | n, .glo _, _, hf, _ => by cases n <;> simp [flatD] at hf
  | n, .ref _, _, hf, _ => by cases n <;> simp [flatD] at hf
  | n, .xcp _ _, _, hf, _ => by cases n <;> simp [flatD] at hf
  | n, .dct _, _, hf, _ => by cases n <;> simp [flatD] at hf
  | n, .kdc _, _, hf, _ => by cases n <;> simp [flatD] at hf
theorem flat_DpAll {K : PySem.W.Frag} : ∀ (n : Nat) (ds : List D) (vs : List V), flatDs n ds = true → RVs K L ω ds vs → DpAll K ω.H vs (pds ds) ∧ PyData.canLayAll0 (pds ds) = true ∧ PyData.depthAll (pds ds) ≤ n
  | n, [], _, _, h => by cases h; exact ⟨.nil, rfl, by simp [pds, PyData.depthAll]⟩
  | n, d :: ds, _, hf, ⟨v, r, h1, h2, h3⟩ => by
    subst h1
    have hf' : flatD n d = true ∧ flatDs n ds = true := by simpa [flatDs] using hf
    obtain ⟨a1, a2, a3⟩ := flat_Dp n d v hf'.1 h2
    obtain ⟨b1, b2, b3⟩ := flat_DpAll n ds r hf'.2 h3
    refine ⟨.cons a1 b1, by simp [pds, PyData.canLayAll0, a2, b2], ?_⟩
    simp only [pds, PyData.depthAll]
    omega
end
theorem toStr_beq (x y : Sg) : (toStr x == toStr y) = (x == y) := by
  by_cases h : x = y
  · subst h; simp
  · rw [beq_eq_false_iff_ne.mpr h, beq_eq_false_iff_ne.mpr fun e => h (toStr_inj e)]
mutual
theorem eqv_eqD : ∀ (n m : Nat) (a b : D), flatD n a = true → flatD m b = true → PyData.eqv (pd a) (pd b) = eqD a b
  | n, m, a, b, ha, hb => by
    cases a <;> cases b <;> first
      | rfl
      | exact toStr_beq _ _
      | (rename_i x y
         cases n with
         | zero => simp [flatD] at ha
         | succ n =>
           cases m with
           | zero => simp [flatD] at hb
           | succ m =>
             have h := eqv_eqDs n m x y (by simpa [flatD] using ha) (by simpa [flatD] using hb)
             simpa [pd, PyData.eqv, eqD] using h)
      | (cases n <;> (simp [flatD] at ha; done))
      | (cases m <;> (simp [flatD] at hb; done))
theorem eqv_eqDs : ∀ (n m : Nat) (a b : List D), flatDs n a = true → flatDs m b = true → PyData.eqvAll (pds a) (pds b) = eqDs a b
  | n, m, [], [], _, _ => rfl
  | n, m, [], _ :: _, _, _ => rfl
  | n, m, _ :: _, [], _, _ => rfl
  | n, m, x :: xs, y :: ys, ha, hb => by
    have ha' : flatD n x = true ∧ flatDs n xs = true := by simpa [flatDs] using ha
    have hb' : flatD m y = true ∧ flatDs m ys = true := by simpa [flatDs] using hb
    simp only [pds, PyData.eqvAll, eqDs, eqv_eqD n m x y ha'.1 hb'.1, eqv_eqDs n m xs ys ha'.2 hb'.2]
end
theorem vw_R {K : PySem.W.Frag} (r : Rel K L ω) {d : D} {v : V} (rv : RV K L ω d v) {n : Nat} (hf : flatD n (vw ω.S d) = true) : Dp K ω.H v (pd (vw ω.S d)) ∧ (pd (vw ω.S d)).canLay0 = true ∧ (pd (vw ω.S d)).depth ≤ n := by
  cases d with
  | ref k =>
    cases e : ω.S[k]? with
    | none => simp only [vw, e] at hf; cases n <;> simp [flatD] at hf
    | some o =>
      cases o with
      | none => simp only [vw, e] at hf; cases n <;> simp [flatD] at hf
      | some o =>
        cases o with
        | lst ds =>
          simp only [vw, e] at hf ⊢
          obtain ⟨vs, h1, h2⟩ := r.live _ _ e
          cases n with
          | zero => simp [flatD] at hf
          | succ n =>
            obtain ⟨q1, q2, q3⟩ := flat_DpAll n ds vs (by simpa [flatD] using hf) h2
            obtain ⟨_, rfl⟩ := rv
            exact ⟨.lst (.inl (.inl h1)) q1, by simpa [pd, PyData.canLay0] using q2, by simp only [pd, PyData.depth]; omega⟩
        | dct kvs lk => simp only [vw, e] at hf; cases n <;> simp [flatD] at hf
        | ins c fs => simp only [vw, e] at hf; cases n <;> simp [flatD] at hf
  | _ => exact flat_Dp _ _ _ hf rv
theorem eqOp_R {K : PySem.W.Frag} (r : Rel K L ω) {a b : D} {x y : V} {t : Bool} (r1 : RV K L ω a x) (r2 : RV K L ω b y) (h : eqOp ω.S a b = some t) :
    (∃ d e, Dp K ω.H x d ∧ Dp K ω.H y e ∧ SeqAt.shaped d = true ∧ SeqAt.shaped e = true ∧ PyData.eqv d e = t) ∨
    (t = false ∧ ∃ p q us u0 uu, x = .ref p ∧ y = .ref q ∧ SqL K ω.H p (u0 :: uu) ∧ SqL K ω.H q us ∧ us = []) := by
  unfold eqOp at h
  split at h
  · rename_i hc
    simp only [Bool.and_eq_true] at hc
    cases h
    obtain ⟨p1, p2, p3⟩ := vw_R r r1 hc.1
    obtain ⟨q1, q2, q3⟩ := vw_R r r2 hc.2
    refine .inl ⟨_, _, p1, q1, ?_, ?_, eqv_eqD _ _ _ _ hc.1 hc.2⟩
    · unfold SeqAt.shaped; rw [p2, decide_eq_true (by omega)]; rfl
    · unfold SeqAt.shaped; rw [q2, decide_eq_true (by omega)]; rfl
  · split at h
    · rename_i he
      split at h
      · rename_i d0 dr e0
        cases h
        obtain ⟨p, vs, rfl, hq, rs⟩ := asL_R r e0 r1
        obtain ⟨u0, uu, rfl, _, _⟩ := rs
        have hb : asL ω.S b = some [] := by
          unfold vw at he
          split at he
          · split at he
            · rename_i n ds e2
              cases ds with
              | nil => simp only [asL, e2]
              | cons z zs => cases he
            · cases he
          · unfold empD at he
            split at he
            · rfl
            · cases he
        obtain ⟨q, us, rfl, hq2, rs2⟩ := asL_R r hb r2
        exact .inr ⟨rfl, p, q, us, u0, uu, rfl, rfl, hq, hq2, rs2⟩
      · cases h
    · cases h
theorem o_eq (hu : X.A.units + 64 < cLine) : OpR X (compareOp .Eq) (rV2 X.K L fun S a b => (eqOp S a b).map .bl) := by
  intro pins s σ H x y v u Q I rx ry h
  obtain ⟨ω, d1, d2, d, rfl, r, r1, r2, ho, k⟩ := h
  have ho : (eqOp ω.S d1 d2).map D.bl = some d := ho
  cases e : eqOp ω.S d1 d2 with
  | none => rw [e] at ho; cases ho
  | some t =>
    rw [e] at ho
    cases ho
    rcases eqOp_R r r1 r2 e with ⟨p, q, h1, h2, h3, h4, h5⟩ | ⟨rfl, p, q, us, u0, uu, rfl, rfl, h1, h2, rfl⟩
    · exact op_eqD hu pins s σ _ _ _ v u Q I rx ry ⟨p, q, h1, h2, h3, h4, k ω _ (Ev.refl ω) r rfl (by rw [h5]; rfl)⟩
    · cases rx
      cases ry
      obtain ⟨i1, v1, p1, _⟩ := I.list h1
      obtain ⟨i2, v2, p2, _⟩ := I.list h2
      cases v1
      cases v2
      exact SeqAt.eq_list_lengthsAt p1.isList p2.isList rfl (by omega) ⟨.bl false, _, I, rfl, k ω (.bl false) (Ev.refl ω) r rfl rfl⟩
theorem o_ne (hu : X.A.units + 64 < cLine) : OpR X (compareOp .NotEq) (rV2 X.K L fun S a b => (eqOp S a b).map fun t => .bl (!t)) := by
  intro pins s σ H x y v u Q I rx ry h
  obtain ⟨ω, d1, d2, d, rfl, r, r1, r2, ho, k⟩ := h
  have ho : (eqOp ω.S d1 d2).map (fun t => D.bl (!t)) = some d := ho
  cases e : eqOp ω.S d1 d2 with
  | none => rw [e] at ho; cases ho
  | some t =>
    rw [e] at ho
    cases ho
    rcases eqOp_R r r1 r2 e with ⟨p, q, h1, h2, h3, h4, h5⟩ | ⟨rfl, p, q, us, u0, uu, rfl, rfl, h1, h2, rfl⟩
    · exact op_neD hu pins s σ _ _ _ v u Q I rx ry ⟨p, q, h1, h2, h3, h4, k ω _ (Ev.refl ω) r rfl (by rw [h5]; rfl)⟩
    · cases rx
      cases ry
      obtain ⟨i1, v1, p1, _⟩ := I.list h1
      obtain ⟨i2, v2, p2, _⟩ := I.list h2
      cases v1
      cases v2
      exact SeqAt.RcNeAt.lists_lengths p1.isList p2.isList rfl (by omega) _ _ _ _ ⟨.bl true, _, I, rfl, k ω (.bl true) (Ev.refl ω) r rfl rfl⟩
theorem o_ord {op : CmpOp} {f : Int → Int → Bool} (ho : OpR X (compareOp op) (rI0 fun i j => .bl (f i j))) : OpR X (compareOp op) (rV2 X.K L fun _ => ordOp f) := by
  intro pins s σ H x y v u Q I rx ry h
  obtain ⟨ω, d1, d2, d, rfl, r, r1, r2, ho0, k⟩ := h
  have ho' : ordOp f d1 d2 = some d := ho0
  clear ho0
  unfold ordOp at ho'
  split at ho'
  · cases ho'
    cases (show x = _ from r1)
    cases (show y = _ from r2)
    exact ho pins s σ _ _ _ v u Q I rx ry ⟨_, _, rfl, rfl, k ω _ (Ev.refl ω) r rfl rfl⟩
  · cases ho'
theorem isNon_R {K : PySem.W.Frag} {d : D} {v : V} (h : RV K L ω d v) : decide (v = .non) = isNon d := by
  cases d with
  | non => cases h; rfl
  | bl b => cases h; rfl
  | int i => cases h; rfl
  | str x => obtain ⟨rfl, _⟩ := h; rfl
  | ty n => cases h; rfl
  | glo g => cases h; rfl
  | ref n => obtain ⟨_, rfl⟩ := h; rfl
  | xcp c fs => exact h.elim
  | tup ds => obtain ⟨a, vs, rfl, _⟩ := h; rfl
  | lst ds => obtain ⟨a, vs, rfl, _⟩ := h; rfl
  | lck ds => obtain ⟨a, vs, rfl, _⟩ := h; rfl
  | dct ds => obtain ⟨a, vs, rfl, _⟩ := h; rfl
  | kdc ds => obtain ⟨a, es, n, rfl, _⟩ := h; rfl
theorem isNon_eq {d : D} (h : isNon d = true) : d = .non := by
  cases d <;> simp [isNon] at h
  rfl
theorem o_isN : OpR X (compareOp .Is) (rV2 X.K L fun _ a b => if isNon b then some (.bl (isNon a)) else none) := by
  intro pins s σ H x y v u Q I rx ry h
  obtain ⟨ω, d1, d2, d, rfl, r, r1, r2, ho, k⟩ := h
  have ho : (if isNon d2 then some (D.bl (isNon d1)) else none) = some d := ho
  split at ho
  · rename_i hb
    cases ho
    cases isNon_eq hb
    cases (show y = _ from r2)
    exact op_isN pins s σ _ _ _ v u Q I rx ry ⟨rfl, k ω _ (Ev.refl ω) r rfl (by rw [isNon_R r1]; rfl)⟩
  · cases ho
theorem o_notN : OpR X (compareOp .IsNot) (rV2 X.K L fun _ a b => if isNon b then some (.bl (!isNon a)) else none) := by
  intro pins s σ H x y v u Q I rx ry h
  obtain ⟨ω, d1, d2, d, rfl, r, r1, r2, ho, k⟩ := h
  have ho : (if isNon d2 then some (D.bl (!isNon d1)) else none) = some d := ho
  split at ho
  · rename_i hb
    cases ho
    cases isNon_eq hb
    cases (show y = _ from r2)
    exact op_notN pins s σ _ _ _ v u Q I rx ry ⟨rfl, k ω _ (Ev.refl ω) r rfl (by rw [isNon_R r1]; rfl)⟩
  · cases ho
end
end Mi
end
section
set_option Elab.async false
set_option linter.all false
set_option maxRecDepth 100000
set_option maxHeartbeats 4000000
/-! in, subscripts, slices. -/
namespace Mi
open PySem L2
section
variable {L : Lnk} {X : Cx} {ω : Wd}
theorem scal_flatV {K : PySem.W.Frag} {d : D} {v : V} (h : scalD d = true) (r : RV K L ω d v) : flatV v = true := by
  cases d <;> simp [scalD] at h
  · cases r; rfl
  · cases r; rfl
  · cases r; rfl
  · obtain ⟨rfl, _⟩ := r; rfl
theorem eqV_eqD {K : PySem.W.Frag} {d e : D} {v u : V} (h1 : scalD d = true) (h2 : scalD e = true) (r1 : RV K L ω d v) (r2 : RV K L ω e u) : eqV v u = eqD d e := by
  cases d <;> simp [scalD] at h1 <;> cases e <;> simp [scalD] at h2 <;> first
    | (cases r1; cases r2; rfl)
    | (obtain ⟨rfl, _⟩ := r1; obtain ⟨rfl, _⟩ := r2; exact toStr_beq _ _)
    | (obtain ⟨rfl, _⟩ := r1; cases r2; rfl)
    | (cases r1; obtain ⟨rfl, _⟩ := r2; rfl)
theorem scal_all {K : PySem.W.Frag} : ∀ {ds : List D} {vs : List V}, ds.all scalD = true → RVs K L ω ds vs → vs.all flatV = true
  | [], _, _, h => by cases h; rfl
  | d :: ds, _, h, ⟨v, r, h1, h2, h3⟩ => by
    subst h1
    simp only [List.all_cons, Bool.and_eq_true] at h ⊢
    exact ⟨scal_flatV h.1 h2, scal_all h.2 h3⟩
theorem inV_any {K : PySem.W.Frag} {x : D} {v : V} (hx : scalD x = true) (rx : RV K L ω x v) : ∀ {ds : List D} {vs : List V}, ds.all scalD = true → RVs K L ω ds vs → inV v vs = ds.any fun z => eqD z x
  | [], _, _, h => by cases h; rfl
  | d :: ds, _, h, ⟨u, r, h1, h2, h3⟩ => by
    subst h1
    simp only [List.all_cons, Bool.and_eq_true] at h
    have e : inV v (u :: r) = (eqV u v || inV v r) := rfl
    rw [e, eqV_eqD h.1 hx h2 rx, inV_any hx rx h.2 h3]
    rfl
theorem pds_any (n m : Nat) (x : D) (hx : flatD n x = true) : ∀ {ds : List D}, flatDs m ds = true → ((pds ds).any fun z => PyData.eqv z (pd x)) = ds.any fun z => eqD z x
  | [], _ => rfl
  | d :: ds, h => by
    have h' : flatD m d = true ∧ flatDs m ds = true := by simpa [flatDs] using h
    simp only [pds, List.any_cons, eqv_eqD m n d x h'.1 hx, pds_any n m x hx h'.2]
theorem keyOf_kV {K : PySem.W.Frag} {d : D} {v : V} (h : keyD d = true) (r : RV K L ω d v) : ∃ k, keyOf d = some k ∧ v = kV k := by
  cases d <;> simp [keyD] at h
  · cases r; exact ⟨_, rfl, rfl⟩
  · obtain ⟨rfl, _⟩ := r; exact ⟨_, rfl, rfl⟩
theorem key_eq {a b : D} {k l : Key} (h1 : keyOf a = some k) (h2 : keyOf b = some l) : (k = l) ↔ eqD a b = true := by
  cases a <;> simp [keyOf] at h1 <;> cases b <;> simp [keyOf] at h2 <;> subst h1 <;> subst h2
  · simp [eqD]
  · simp [eqD]
  · simp [eqD]
  · constructor
    · intro h
      have := toStr_inj (Sum.inr.inj h)
      simp [eqD, this]
    · intro h
      have h2 : (‹Sg› : Sg) = ‹Sg› := rfl
      simp only [eqD, beq_iff_eq] at h
      rw [h]
theorem valV_getD {K : PySem.W.Frag} {x : D} {k : Key} (hk : keyOf x = some k) : ∀ {kvs : List (D × D)} {ws : List (Key × V)}, RVk K L ω kvs ws →
    (getD kvs x = none ∧ valV ws k = none) ∨ ∃ d v, getD kvs x = some d ∧ valV ws k = some v ∧ RV K L ω d v
  | [], _, h => by cases h; exact .inl ⟨rfl, rfl⟩
  | (a, b) :: r, _, ⟨l, v, rest, h1, ⟨h2, _⟩, h3, h4⟩ => by
    subst h1
    by_cases e : l = k
    · have e' := (key_eq h2 hk).mp e
      refine .inr ⟨b, v, by simp [getD, e'], ?_, h3⟩
      subst e
      simp [valV]
    · have e' : eqD a x = false := by
        cases q : eqD a x with
        | false => rfl
        | true => exact absurd ((key_eq h2 hk).mpr q) e
      have hv : valV ((l, v) :: rest) k = valV rest k := by simp [valV, e]
      rw [hv]
      simp only [getD, e', Bool.false_eq_true, if_false]
      exact valV_getD hk h4
theorem in_seq_R {K : PySem.W.Frag} {x : D} {v : V} {ds : List D} {vs : List V} (hs : (scalD x && ds.all scalD) = true) (rx : RV K L ω x v) (rs : RVs K L ω ds vs) : flatV v = true ∧ vs.all flatV = true ∧ inV v vs = ds.any fun z => eqD z x := by
  simp only [Bool.and_eq_true] at hs
  exact ⟨scal_flatV hs.1 rx, scal_all hs.2 rs, inV_any hs.1 rx hs.2 rs⟩
theorem in_deep_R {K : PySem.W.Frag} {x : D} {v : V} {a : Addr} {ds : List D} {vs : List V} (hs : (flatD 60 x && flatDs 59 ds) = true) (rx : RV K L ω x v) (hq : SqL K ω.H a vs) (rs : RVs K L ω ds vs) :
    ∃ d es, Dp K ω.H v d ∧ Dp K ω.H (.ref a) (.list es) ∧ SeqAt.shaped d = true ∧ SeqAt.shaped (.list es) = true ∧ (es.any fun z => PyData.eqv z d) = ds.any fun z => eqD z x := by
  simp only [Bool.and_eq_true] at hs
  obtain ⟨p1, p2, p3⟩ := flat_Dp _ _ _ hs.1 rx
  obtain ⟨q1, q2, q3⟩ := flat_DpAll _ _ _ hs.2 rs
  refine ⟨_, _, p1, .lst hq q1, ?_, ?_, pds_any _ _ _ hs.1 hs.2⟩
  · unfold SeqAt.shaped; rw [p2, decide_eq_true (by omega)]; rfl
  · unfold SeqAt.shaped
    rw [show (PyData.list (pds ds)).canLay0 = true from q2, decide_eq_true (show (PyData.list (pds ds)).depth ≤ 64 by simp only [PyData.depth]; omega)]
    rfl
/-- what `in` answers -/
inductive InA (X : Cx) (L : Lnk) (ω : Wd) (v w : V) (b : Bool) : Prop where
  | kd (d : Addr) (es : Array DictEntry) (n : Nat) (z : Str) (r : Option Value) (D : KDict X.K L.w d es n) (h1 : v = .str z) (h2 : w = .ref d) (h3 : PySem.W.nsIn X.K d z = some r) (h4 : r.isSome = b)
  | sign (c : Nat) (z : Str) (h1 : v = .str ⟨#[c]⟩) (h2 : w = .str z) (h3 : decide (c ∈ z.cps.toList) = b)
  | dict (a : Addr) (o : Option V) (h1 : w = .ref a) (h2 : DGet ω.H a v o) (h3 : o.isSome = b)
  | flat (p : Addr) (vs : List V) (h1 : w = .ref p) (h2 : SqL X.K ω.H p vs ∨ SqT X.K ω.H p vs) (h3 : flatV v = true) (h4 : vs.all flatV = true) (h5 : inV v vs = b)
  | deep (d : PyData) (es : List PyData) (h1 : Dp X.K ω.H v d) (h2 : Dp X.K ω.H w (.list es)) (h3 : SeqAt.shaped d = true) (h4 : SeqAt.shaped (.list es) = true) (h5 : (es.any fun z => PyData.eqv z d) = b)
theorem dget_R {K : PySem.W.Frag} {x : D} {v : V} {a : Addr} {kvs : List (D × D)} {ws : List (Key × V)} (hk : keyD x = true) (rx : RV K L ω x v) (ha : Rd ω.H a (.dK ws)) (rk : RVk K L ω kvs ws) :
    (getD kvs x = none ∧ DGet ω.H a v none) ∨ ∃ d u, getD kvs x = some d ∧ DGet ω.H a v (some u) ∧ RV K L ω d u := by
  obtain ⟨k, hk1, rfl⟩ := keyOf_kV hk rx
  rcases valV_getD hk1 rk with ⟨h1, h2⟩ | ⟨d, u, h1, h2, h3⟩
  · exact .inl ⟨h1, .inl ⟨ws, k, ha, rfl, h2.symm⟩⟩
  · exact .inr ⟨d, u, h1, .inl ⟨ws, k, ha, rfl, h2.symm⟩, h3⟩
theorem dlive_R {K : PySem.W.Frag} (r : Rel K L ω) {n : Nat} {kvs : List (D × D)} {lk : Bool} (e : ω.S[n]? = some (some (.dct kvs lk))) : ∃ ws, Rd ω.H (ω.M n) (.dK ws) ∧ RVk K L ω kvs ws := by
  have h := r.live _ _ e
  cases lk with
  | false => obtain ⟨ws, h1, h2⟩ := h; exact ⟨ws, .inl h1, h2⟩
  | true => obtain ⟨od, ws, h1, h2⟩ := h; exact ⟨ws, .inr ⟨od, h1⟩, h2⟩
theorem dfrz_R {K : PySem.W.Frag} {a : Addr} {ws : List (Key × V)} (h : IsDk K ω a ws) : Rd ω.H a (.dK ws) := by
  rcases h.1 with h | ⟨o, h⟩
  · exact .inl h
  · exact .inr ⟨o, h⟩
theorem RVz_get {K : PySem.W.Frag} {f : Str → Option (Option Value)} {z : Sg} {d : D} : ∀ {kvs : List (Sg × D)}, RVz K L ω kvs f → kvs.lookup z = some d → ∃ u v, f (toStr z) = some (some u) ∧ RelV v u ∧ RV K L ω d v
  | [], _, h => by cases h
  | (x, e) :: r, ⟨h1, h2⟩, h => by
    rw [List.lookup_cons] at h
    cases q : z == x with
    | true =>
      rw [q] at h
      cases h
      rw [beq_iff_eq.mp q]
      exact h1
    | false =>
      rw [q] at h
      exact RVz_get h2 h
theorem kd_R {K : PySem.W.Frag} {kvs : List (Sg × D)} {w : V} (h : RV K L ω (.kdc kvs) w) (z : Sg) : ∃ a es n, w = .ref a ∧ KDict K L.w a es n ∧ ((kvs.lookup z = none ∧ PySem.W.nsIn K a (toStr z) = some none) ∨ ∃ d u v, kvs.lookup z = some d ∧ PySem.W.nsIn K a (toStr z) = some (some u) ∧ RelV v u ∧ RV K L ω d v) := by
  obtain ⟨a, es, n, h1, h2, h3, h4⟩ := h
  refine ⟨a, es, n, h1, h2, ?_⟩
  cases e : kvs.lookup z with
  | none => exact .inl ⟨rfl, h4 z e⟩
  | some d =>
    obtain ⟨u, v, q1, q2, q3⟩ := RVz_get h3 e
    exact .inr ⟨d, u, v, rfl, q1, q2, q3⟩
theorem inOp_R (r : Rel X.K L ω) {a b : D} {v w : V} {t : Bool} (r1 : RV X.K L ω a v) (r2 : RV X.K L ω b w) (h : inOp ω.S a b = some t) : InA X L ω v w t := by
  have dct : ∀ {p : Addr} {kvs : List (D × D)} {ws : List (Key × V)}, w = .ref p → Rd ω.H p (.dK ws) → RVk X.K L ω kvs ws → (if keyD a = true then some (getD kvs a).isSome else none) = some t → InA X L ω v w t := by
    intro p kvs ws e hd rk h
    split at h
    · rename_i hk
      have h := Option.some.inj h
      rcases dget_R hk r1 hd rk with ⟨h1, h2⟩ | ⟨d, u, h1, h2, _⟩
      · exact .dict p none e h2 (by rw [← h, h1]; rfl)
      · exact .dict p (some u) e h2 (by rw [← h, h1]; rfl)
    · cases h
  have lst : ∀ {p : Addr} {ds : List D} {vs : List V}, w = .ref p → SqL X.K ω.H p vs → RVs X.K L ω ds vs → (if (scalD a && ds.all scalD) = true then some (ds.any fun z => eqD z a) else if (flatD 60 a && flatDs 59 ds) = true then some (ds.any fun z => eqD z a) else none) = some t → InA X L ω v w t := by
    intro p ds vs e hq rs h
    split at h
    · rename_i hc
      have h := Option.some.inj h
      obtain ⟨q1, q2, q3⟩ := in_seq_R hc r1 rs
      exact .flat p vs e (.inl hq) q1 q2 (q3.trans h)
    · split at h
      · rename_i hc
        have h := Option.some.inj h
        obtain ⟨d, es, q1, q2, q3, q4, q5⟩ := in_deep_R hc r1 hq rs
        subst e
        exact .deep d es q1 q2 q3 q4 (q5.trans h)
      · cases h
  unfold inOp at h
  split at h
  · split at h
    · have h := Option.some.inj h
      obtain ⟨rfl, _⟩ := r1
      obtain ⟨rfl, _⟩ := r2
      refine .sign _ _ rfl rfl ?_
      rw [toStr_cps, ← h, List.contains_eq_mem]
    · cases h
  · obtain ⟨p, ws, e, hd, rk⟩ := r2
    exact dct e (dfrz_R hd) rk h
  · split at h
    · rename_i kvs z
      have h := Option.some.inj h
      obtain ⟨rfl, _⟩ := r1
      obtain ⟨a, es, n, e, D, hz⟩ := kd_R r2 z
      rcases hz with ⟨h1, h2⟩ | ⟨d, u, v0, h1, h2, _, _⟩
      · exact .kd a es n (toStr z) none D rfl e h2 (by rw [← h, h1]; rfl)
      · exact .kd a es n (toStr z) (some u) D rfl e h2 (by rw [← h, h1]; rfl)
    · cases h
  · split at h
    · rename_i e
      obtain ⟨vs, h1, h2⟩ := r.live _ _ e
      exact lst r2.2 (.inl (.inl h1)) h2 h
    · rename_i e
      obtain ⟨ws, h1, h2⟩ := dlive_R r e
      exact dct r2.2 h1 h2 h
    · cases h
  · split at h
    · rename_i hc
      have h := Option.some.inj h
      obtain ⟨p, vs, e, ht, rs⟩ := r2
      obtain ⟨q1, q2, q3⟩ := in_seq_R hc r1 rs
      exact .flat p vs e (.inr ht.sq) q1 q2 (q3.trans h)
    · cases h
  · obtain ⟨p, vs, e, hl, rs⟩ := r2
    exact lst e hl.sq rs h
  · obtain ⟨p, vs, e, hl, rs⟩ := r2
    exact lst e hl.sq rs h
  · cases h
theorem o_in (hw : X.w = L.w) (hu : X.A.units + 65 < cLine) : OpR X (compareOp .In) (rV2 X.K L fun S a b => (inOp S a b).map .bl) := by
  intro pins s σ H x y v u Q I rx ry h
  obtain ⟨ω, d1, d2, d, rfl, r, r1, r2, ho, k⟩ := h
  have ho : (inOp ω.S d1 d2).map D.bl = some d := ho
  cases e : inOp ω.S d1 d2 with
  | none => rw [e] at ho; cases ho
  | some t =>
    rw [e] at ho
    cases ho
    have q : Q (.bl t) ω.H := k ω _ (Ev.refl ω) r rfl rfl
    cases inOp_R r r1 r2 e with
    | kd dd es n z o D h1 h2 h3 h4 =>
      rw [← hw] at D
      exact op_in_kd D pins s σ _ _ _ v u Q I rx ry ⟨z, o, h1, h2, h3, by rw [h4]; exact q⟩
    | sign c z h1 h2 h3 => exact op_in_sign pins s σ _ _ _ v u Q I rx ry ⟨c, z, h1, h2, by rw [h3]; exact q⟩
    | dict a o h1 h2 h3 =>
      subst h1
      obtain rfl : u = Value.ref a := ry
      refine d_in (by omega) I h2 rx fun s3 I3 => ⟨.bl o.isSome, ω.H, I3, rfl, ?_⟩
      rw [h3]; exact q
    | flat p vs h1 h2 h3 h4 h5 => exact op_in_seq pins s σ _ _ _ v u Q I rx ry ⟨p, vs, h1, h2, h3, h4, by rw [if_neg Bool.false_ne_true, h5]; exact q⟩
    | deep d es h1 h2 h3 h4 h5 => exact op_inD hu pins s σ _ _ _ v u Q I rx ry ⟨d, es, h1, h2, h3, h4, by rw [h5]; exact q⟩
theorem o_notin (hw : X.w = L.w) (hu : X.A.units + 65 < cLine) : OpR X (compareOp .NotIn) (rV2 X.K L fun S a b => (inOp S a b).map fun t => .bl (!t)) := by
  intro pins s σ H x y v u Q I rx ry h
  obtain ⟨ω, d1, d2, d, rfl, r, r1, r2, ho, k⟩ := h
  have ho : (inOp ω.S d1 d2).map (fun t => D.bl (!t)) = some d := ho
  cases e : inOp ω.S d1 d2 with
  | none => rw [e] at ho; cases ho
  | some t =>
    rw [e] at ho
    cases ho
    have q : Q (.bl (!t)) ω.H := k ω _ (Ev.refl ω) r rfl rfl
    cases inOp_R r r1 r2 e with
    | kd dd es n z o D h1 h2 h3 h4 =>
      rw [← hw] at D
      exact op_notIn_kd D pins s σ _ _ _ v u Q I rx ry ⟨z, o, h1, h2, h3, by rw [h4]; exact q⟩
    | sign c z h1 h2 h3 => exact op_notIn_sign pins s σ _ _ _ v u Q I rx ry ⟨c, z, h1, h2, by rw [h3]; exact q⟩
    | dict a o h1 h2 h3 =>
      subst h1
      obtain rfl : u = Value.ref a := ry
      refine d_notIn (by omega) I h2 rx fun s3 I3 => ⟨.bl (!o.isSome), ω.H, I3, rfl, ?_⟩
      rw [h3]; exact q
    | flat p vs h1 h2 h3 h4 h5 => exact op_notIn_seq pins s σ _ _ _ v u Q I rx ry ⟨p, vs, h1, h2, h3, h4, by rw [if_pos rfl, h5]; exact q⟩
    | deep d es h1 h2 h3 h4 h5 => exact op_notInD hu pins s σ _ _ _ v u Q I rx ry ⟨d, es, h1, h2, h3, h4, by rw [h5]; exact q⟩
def opC : Cop → CmpOp
  | .lt => .Lt | .le => .LtE | .gt => .Gt | .ge => .GtE | .eq => .Eq | .ne => .NotEq | .isin => .In | .notin => .NotIn | .isN => .Is | .notN => .IsNot
theorem o_cmp (hw : X.w = L.w) (hu : X.A.units + 65 < cLine) (o : Cop) : OpR X (compareOp (opC o)) (rV2 X.K L fun S => cmpOp S o) := by
  cases o with
  | lt => exact o_ord op_lt
  | le => exact o_ord op_le
  | gt => exact o_ord op_gt
  | ge => exact o_ord op_ge
  | eq => exact o_eq (by omega)
  | ne => exact o_ne (by omega)
  | isin => exact o_in hw hu
  | notin => exact o_notin hw hu
  | isN => exact o_isN
  | notN => exact o_notN
/-! ### subscripts -/
theorem atIx_get {α : Type} {xs : List α} {i : Int} {x : α} (h : atIx xs i = some x) : ∃ j, ixN xs.length i = some j ∧ xs[j]? = some x := by
  unfold atIx at h
  cases e : ixOf xs.length i with
  | none => rw [e] at h; cases h
  | some j => rw [e] at h; exact ⟨j, e, h⟩
theorem atI_of {α : Type} {xs : List α} {i : Int} {j : Nat} {x : α} (h1 : ixN xs.length i = some j) (h2 : xs[j]? = some x) : atI xs i = some x := by
  unfold atI
  rw [h1]
  exact h2
theorem at_R {K : PySem.W.Frag} {ds : List D} {vs : List V} {i : Int} {d : D} (rs : RVs K L ω ds vs) (h : atIx ds i = some d) : ∃ v, atI vs i = some v ∧ RV K L ω d v := by
  obtain ⟨j, h1, h2⟩ := atIx_get h
  obtain ⟨v, h3, h4⟩ := rs.get h2
  exact ⟨v, atI_of (by rw [rs.length]; exact h1) h3, h4⟩
theorem okS_one {x : Sg} {c : Nat} (h : okS x) (hc : c ∈ x) : okS [c] := by
  refine ⟨?_, by simp [LIM]⟩
  have h1 := h.1
  simp only [PyData.strOk, toStr, List.all_toArray, List.all_eq_true] at *
  intro y hy
  have : y = c := by simpa using hy
  rw [this]; exact h1 c hc
/-- what a subscript answers -/
inductive SbA (X : Cx) (L : Lnk) (ω : Wd) (v w : V) (r : V) : Prop where
  | str (z : Str) (i : Int) (c : Nat) (h1 : v = .str z) (h2 : w = .int i) (h3 : z.length ≤ sizeLine) (h4 : atI z.cps.toList i = some c) (h5 : r = .str ⟨#[c]⟩)
  | lst (p : Addr) (vs : List V) (i : Int) (h1 : v = .ref p) (h2 : w = .int i) (h3 : SqL X.K ω.H p vs) (h4 : atI vs i = some r)
  | tup (p : Addr) (vs : List V) (i : Int) (h1 : v = .ref p) (h2 : w = .int i) (h3 : SqT X.K ω.H p vs) (h4 : atI vs i = some r)
  | dict (p : Addr) (h1 : v = .ref p) (h2 : DGet ω.H p w (some r))
  | kd (p : Addr) (es : Array DictEntry) (n : Nat) (z : Str) (u : Value) (D : KDict X.K L.w p es n) (h1 : v = .ref p) (h2 : w = .str z) (h3 : PySem.W.nsIn X.K p z = some (some u)) (h4 : RelV r u)
theorem subOp_R (r : Rel X.K L ω) {a b d : D} {v w : V} (r1 : RV X.K L ω a v) (r2 : RV X.K L ω b w) (h : subOp ω.S a b = some d) : ∃ u, SbA X L ω v w u ∧ RV X.K L ω d u := by
  have dct : ∀ {p : Addr} {kvs : List (D × D)} {ws : List (Key × V)}, v = .ref p → Rd ω.H p (.dK ws) → RVk X.K L ω kvs ws → (if keyD b = true then getD kvs b else none) = some d → ∃ u, SbA X L ω v w u ∧ RV X.K L ω d u := by
    intro p kvs ws e hd rk h
    split at h
    · rename_i hk
      rcases dget_R hk r2 hd rk with ⟨h1, h2⟩ | ⟨d', u, h1, h2, h3⟩
      · rw [h1] at h; cases h
      · rw [h1] at h
        cases h
        exact ⟨u, .dict p e h2, h3⟩
    · cases h
  unfold subOp at h
  split at h
  · rename_i z i
    obtain ⟨rfl, ok⟩ := r1
    cases (show w = _ from r2)
    cases e : atIx z i with
    | none => rw [e] at h; cases h
    | some c =>
      rw [e] at h
      cases h
      obtain ⟨j, h1, h2⟩ := atIx_get e
      refine ⟨_, .str (toStr z) i c rfl rfl (by rw [toStr_length, ← lim_line]; exact ok.2) (by rw [toStr_cps]; exact atI_of h1 h2) rfl, rfl, okS_one ok (List.mem_of_getElem? h2)⟩
  · obtain ⟨p, ws, e, hd, rk⟩ := r1
    exact dct e (dfrz_R hd) rk h
  · split at h
    · rename_i z
      obtain ⟨rfl, _⟩ := r2
      obtain ⟨p, es, n, e, D, hz⟩ := kd_R r1 z
      rcases hz with ⟨h1, h2⟩ | ⟨d', u, v0, h1, h2, h3, h4⟩
      · rw [h1] at h; cases h
      · rw [h1] at h
        cases h
        exact ⟨v0, .kd p es n (toStr z) u D e rfl h2 h3, h4⟩
    · cases h
  · split at h
    · rename_i e
      split at h
      · cases (show w = _ from r2)
        obtain ⟨vs, h1, h2⟩ := r.live _ _ e
        obtain ⟨u, q1, q2⟩ := at_R h2 h
        exact ⟨u, .lst _ vs _ r1.2 rfl (.inl (.inl h1)) q1, q2⟩
      · cases h
    · rename_i e
      obtain ⟨ws, h1, h2⟩ := dlive_R r e
      exact dct r1.2 h1 h2 h
    · cases h
  · cases (show w = _ from r2)
    cases e : asSeq ω.S a with
    | none => rw [e] at h; cases h
    | some ds =>
      rw [e] at h
      obtain ⟨p, vs, rfl, hq, rs⟩ := asSeq_R r e r1
      obtain ⟨u, q1, q2⟩ := at_R rs h
      rcases hq with hq | hq
      · exact ⟨u, .lst p vs _ rfl rfl hq q1, q2⟩
      · exact ⟨u, .tup p vs _ rfl rfl hq q1, q2⟩
  · cases h
theorem o_sub_ix (hw : X.w = L.w) (hu : X.A.units + 65 < cLine) : IxR X (rV2 X.K L fun S => subOp S) := by
  intro value slice pins s σ H x y v u Q I rx ry h hs
  obtain ⟨ω, d1, d2, d, rfl, r, r1, r2, ho, k⟩ := h
  obtain ⟨z, sb, rz⟩ := subOp_R r r1 r2 ho
  have q : Q z ω.H := k ω z (Ev.refl ω) r rfl rz
  cases sb with
  | str zz i c h1 h2 h3 h4 h5 => subst h5; exact ix_str value slice pins s σ _ _ _ v u Q I rx ry ⟨zz, i, c, h1, h2, h3, h4, q⟩ hs
  | lst p vs i h1 h2 h3 h4 => exact ix_list value slice pins s σ _ _ _ v u Q I rx ry ⟨p, vs, i, z, h1, h2, h3, h4, q⟩ hs
  | tup p vs i h1 h2 h3 h4 => exact ix_tup value slice pins s σ _ _ _ v u Q I rx ry ⟨p, vs, i, z, h1, h2, h3, h4, q⟩ hs
  | dict p h1 h2 =>
    subst h1
    obtain rfl : v = Value.ref p := rx
    exact PyProof.Rows.tail_any (dict_typeIs I h2) PySem.F.slot_dict_getitem.lookup (d_getItem (by omega) I h2 ry fun w' s3 I3 rw' => ⟨z, ω.H, I3, rw', q⟩) hs
  | kd p es n zz uu D h1 h2 h3 h4 =>
    rw [← hw] at D
    subst h1
    obtain rfl : v = Value.ref p := rx
    exact PyProof.Rows.tail_any (kd_type D I) PySem.F.slot_dict_getitem.lookup (op_item_kd D pins s σ _ (.ref p) y (.ref p) u Q I (show RelV (.ref p) (.ref p) from rfl) ry ⟨zz, uu, z, rfl, h2, h3, h4, q⟩) hs
/-! ### slices -/
def rSl (K : PySem.W.Frag) (L : Lnk) : V → Option Int → Option Int → Hp → VK → Prop := fun x lo hi H Q => ∃ ω d1 d, ω.H = H ∧ Rel K L ω ∧ RV K L ω d1 x ∧ slcOp ω.S d1 lo hi = some d ∧ ∀ ω' v, Ev K ω ω' → Rel K L ω' → ω'.S = ω.S → RV K L ω' d v → Q v ω'.H
theorem sIx_eq (n d : Nat) (o : Option Int) : HT.sIx n d o = sIx n d o := by cases o <;> rfl
theorem cut_V {K : PySem.W.Frag} {ds : List D} {vs : List V} (rs : RVs K L ω ds vs) (lo hi : Option Int) : RVs K L ω (cut ds lo hi) (cutV vs lo hi) := by
  unfold cut cutV
  rw [sIx_eq, sIx_eq, rs.length]
  exact (rs.drop _).take _
theorem okS_sub {x y : Sg} (h : okS x) (hs : ∀ c ∈ y, c ∈ x) (hl : y.length ≤ x.length) : okS y := by
  refine ⟨?_, Nat.le_trans hl h.2⟩
  have h1 := h.1
  simp only [PyData.strOk, toStr, List.all_toArray, List.all_eq_true] at *
  exact fun c hc => h1 c (hs c hc)
theorem cut_mem {α : Type} {xs : List α} {lo hi : Option Int} {c : α} (h : c ∈ cut xs lo hi) : c ∈ xs := List.mem_of_mem_drop (List.mem_of_mem_take h)
theorem cut_len {α : Type} (xs : List α) (lo hi : Option Int) : (cut xs lo hi).length ≤ xs.length := by
  unfold cut
  rw [List.length_take, List.length_drop]
  omega
theorem o_slc : SlR X (rSl X.K L) := by
  intro pins s σ H x v vl vu lo hi sl Q I rx hs pl pu h
  obtain ⟨ω, d1, d, rfl, r, r1, ho, k⟩ := h
  unfold slcOp at ho
  split at ho
  · rename_i z
    cases ho
    obtain ⟨rfl, ok⟩ := r1
    refine sl_str pins s σ _ _ v vl vu lo hi sl Q I rx hs pl pu ⟨toStr z, rfl, by rw [toStr_length, ← lim_line]; exact ok.2, ?_⟩
    refine k ω _ (Ev.refl ω) r rfl ⟨?_, okS_sub ok (fun c hc => cut_mem hc) (cut_len _ _ _)⟩
    unfold cutS cut
    rw [toStr_cps, toStr_length, sIx_eq, sIx_eq]
    rfl
  · rename_i ds
    cases ho
    obtain ⟨p, vs, rfl, ht, rs⟩ := r1
    have hc := cut_V rs lo hi
    refine sl_tupA pins s σ _ _ v vl vu lo hi sl Q I rx hs pl pu ⟨p, vs, rfl, ht.sq, fun he => ?_, fun _ => new_tup r hc k⟩
    have e : cutV vs lo hi = vs := by
      unfold cutV
      rw [he.1, he.2]
      simp
    exact k ω _ (Ev.refl ω) r rfl ⟨p, vs, rfl, ht, by rw [e] at hc; exact hc⟩
  · cases e : asL ω.S d1 with
    | none => rw [e] at ho; cases ho
    | some ds =>
      rw [e] at ho
      cases ho
      obtain ⟨p, vs, rfl, hq, rs⟩ := asL_R r e r1
      exact sl_list pins s σ _ _ v vl vu lo hi sl Q I rx hs pl pu ⟨p, vs, rfl, hq, new_lst r (cut_V rs lo hi) k⟩
end
end Mi
end
section
set_option Elab.async false
set_option linter.all false
set_option maxRecDepth 100000
set_option maxHeartbeats 4000000
/-! Expressions: the interpreter's answer is the model's. -/
namespace Mi
open PySem L2
theorem Re.assoc {α β γ : Type} (m : Re α) (f : α → Mi.St → Re β) (g : β → Mi.St → Re γ) : (m.bnd f).bnd g = m.bnd fun x S => (f x S).bnd g := by cases m <;> rfl
section
variable {K : PySem.W.Frag} {C : Cn} {W : WX} {ω : Wd} {e : Mi.Env} {σ : L2.St} {α β : Type}
theorem tE.step {ca : CE} {f : D → Mi.St → Re α} {J : Wd → α → Prop} {Q' : VK} (r : Rel K C.L ω) (er : EnvR K C.L ω e σ) (h : Rn K C.L ((evE C.P C.F ca e ω.S).bnd f) J (JXof K C.L W σ) ω)
    (k : ∀ ω1 d1 v1, Ev K ω ω1 → Rel K C.L ω1 → RV K C.L ω1 d1 v1 → Rn K C.L (f d1 ω1.S) J (JXof K C.L W σ) ω1 → Q' v1 ω1.H) : tE K C W ca σ ω.H Q' :=
  ⟨ω, e, rfl, r, er, (Rn.bnd h).imp fun ω1 d1 e1 r1 h1 v1 rv => k ω1 d1 v1 e1 r1 rv h1⟩
theorem tT.step {ca : CE} {f : Bool → Mi.St → Re α} {J : Wd → α → Prop} {Q' : Bool → Hp → Prop} (r : Rel K C.L ω) (er : EnvR K C.L ω e σ) (h : Rn K C.L ((tB (evE C.P C.F ca e ω.S)).bnd f) J (JXof K C.L W σ) ω)
    (k : ∀ ω1 b, Ev K ω ω1 → Rel K C.L ω1 → Rn K C.L (f b ω1.S) J (JXof K C.L W σ) ω1 → Q' b ω1.H) : tT K C W ca σ ω.H Q' :=
  ⟨ω, e, rfl, r, er, (Rn.bnd h).imp fun ω1 b e1 r1 h1 => k ω1 b e1 r1 h1⟩
theorem tA.step {cs : List CE} {f : List D → Mi.St → Re α} {J : Wd → α → Prop} {Q' : List V → Hp → Prop} (r : Rel K C.L ω) (er : EnvR K C.L ω e σ) (h : Rn K C.L ((evEs C.P C.F cs e ω.S).bnd f) J (JXof K C.L W σ) ω)
    (k : ∀ ω1 ds vs, Ev K ω ω1 → Rel K C.L ω1 → RVs K C.L ω1 ds vs → Rn K C.L (f ds ω1.S) J (JXof K C.L W σ) ω1 → Q' vs ω1.H) : tA K C W cs σ ω.H Q' :=
  ⟨ω, e, rfl, r, er, (Rn.bnd h).imp fun ω1 d1 e1 r1 h1 v1 rv => k ω1 d1 v1 e1 r1 rv h1⟩
theorem tO.step {c : Option CE} {f : Option Int → Mi.St → Re α} {J : Wd → α → Prop} {Q' : Option Int → Hp → Prop} (r : Rel K C.L ω) (er : EnvR K C.L ω e σ) (h : Rn K C.L ((evO C.P C.F c e ω.S).bnd f) J (JXof K C.L W σ) ω)
    (k : ∀ ω1 o, Ev K ω ω1 → Rel K C.L ω1 → Rn K C.L (f o ω1.S) J (JXof K C.L W σ) ω1 → Q' o ω1.H) : tO K C W c σ ω.H Q' :=
  ⟨ω, e, rfl, r, er, (Rn.bnd h).imp fun ω1 b e1 r1 h1 => k ω1 b e1 r1 h1⟩
theorem RV.asB {L : Lnk} {d : D} {b : Bool} {v : V} (h : Mi.asB d = some b) (rv : RV K L ω d v) : v = .bl b := by
  cases d <;> simp [Mi.asB] at h
  subst h
  exact rv
theorem asB_eq {d : D} {b : Bool} (h : Mi.asB d = some b) : d = .bl b := by
  cases d <;> simp [Mi.asB] at h
  rw [h]
/-- a test is a value that is a bool -/
theorem tT_tE {c : CE} {H : Hp} {Q : Bool → Hp → Prop} (h : tT K C W c σ H Q) : tE K C W c σ H fun x H' => ∃ k, x = .bl k ∧ Q k H' := by
  obtain ⟨ω, e, rfl, r, er, h⟩ := h
  refine ⟨ω, e, rfl, r, er, (Rn.bnd h).imp fun ω1 d e1 r1 h1 v rv => ?_⟩
  obtain ⟨b, hb, h2⟩ := Rn.lift h1
  exact ⟨b, rv.asB hb, h2.here r1⟩
/-! ### what each form comes to -/
variable {ca cb cc : CE} {H : Hp} {Q : VK}
theorem i_bin (o : Bop) (h : tE K C W (.bin o ca cb) σ H Q) : tOp (rV2 K C.L fun S => binOp S o) (tE K C W ca) (tE K C W cb) σ H Q := by
  obtain ⟨ω, e, rfl, r, er, h⟩ := h
  refine tE.step r er h fun ω1 d1 v1 e1 r1 q1 h1 => ?_
  refine tE.step r1 (er.mono e1) h1 fun ω2 d2 v2 e2 r2 q2 h2 => ?_
  obtain ⟨d, hd, h3⟩ := Rn.lift h2
  exact ⟨ω2, d1, d2, d, rfl, r2, RV.mono e2 d1 q1, q2, hd, fun ω' v ev re es rv => h3 ω' ev re es v rv⟩
theorem i_cmp (o : Cop) (h : tE K C W (.cmp o ca cb) σ H Q) : tOp (rV2 K C.L fun S => cmpOp S o) (tE K C W ca) (tE K C W cb) σ H Q := by
  obtain ⟨ω, e, rfl, r, er, h⟩ := h
  refine tE.step r er h fun ω1 d1 v1 e1 r1 q1 h1 => ?_
  refine tE.step r1 (er.mono e1) h1 fun ω2 d2 v2 e2 r2 q2 h2 => ?_
  obtain ⟨d, hd, h3⟩ := Rn.lift h2
  exact ⟨ω2, d1, d2, d, rfl, r2, RV.mono e2 d1 q1, q2, hd, fun ω' v ev re es rv => h3 ω' ev re es v rv⟩
theorem i_sub (h : tE K C W (.sub ca cb) σ H Q) : tOp (rV2 K C.L fun S => subOp S) (tE K C W ca) (tE K C W cb) σ H Q := by
  obtain ⟨ω, e, rfl, r, er, h⟩ := h
  refine tE.step r er h fun ω1 d1 v1 e1 r1 q1 h1 => ?_
  refine tE.step r1 (er.mono e1) h1 fun ω2 d2 v2 e2 r2 q2 h2 => ?_
  obtain ⟨d, hd, h3⟩ := Rn.lift h2
  exact ⟨ω2, d1, d2, d, rfl, r2, RV.mono e2 d1 q1, q2, hd, fun ω' v ev re es rv => h3 ω' ev re es v rv⟩
theorem i_chn (o o' : Cop) (h : tE K C W (.chn o o' ca cb cc) σ H Q) : tChain (rV2 K C.L fun S => cmpOp S o) (rV2 K C.L fun S => cmpOp S o') (tE K C W ca) (tE K C W cb) (tE K C W cc) σ H Q := by
  obtain ⟨ω, e, rfl, r, er, h⟩ := h
  refine tE.step r er h fun ω1 d1 v1 e1 r1 q1 h1 => ?_
  refine tE.step r1 (er.mono e1) h1 fun ω2 d2 v2 e2 r2 q2 h2 => ?_
  obtain ⟨d, hd, h3⟩ := Rn.lift (Rn.bnd h2)
  refine ⟨ω2, d1, d2, d, rfl, r2, RV.mono e2 d1 q1, q2, hd, fun ω3 v e3 r3 es rv => ?_⟩
  have h4 := h3 ω3 e3 r3 es
  dsimp only at h4
  split at h4
  · refine ⟨true, rv, ?_⟩
    rw [if_pos rfl]
    refine tE.step r3 (((er.mono e1).mono e2).mono e3) h4 fun ω4 d4 v4 e4 r4 q4 h5 => ?_
    obtain ⟨d5, hd5, h6⟩ := Rn.lift h5
    exact ⟨ω4, d2, d4, d5, rfl, r4, RV.mono (e3.trans e4) d2 q2, q4, hd5, fun ω' v ev re es rv => h6 ω' ev re es v rv⟩
  · refine ⟨false, rv, ?_⟩
    rw [if_neg Bool.false_ne_true]
    exact h4.here r3 _ rfl
  · exact h4.elim
theorem i_neg (h : tE K C W (.neg ca) σ H Q) : tUn (rU fun i => .int (-i)) (tE K C W ca) σ H Q := by
  obtain ⟨ω, e, rfl, r, er, h⟩ := h
  refine tE.step r er h fun ω1 d1 v1 e1 r1 q1 h1 => ?_
  split at h1
  · exact ⟨_, q1, h1.here r1 _ rfl⟩
  · exact h1.elim
theorem i_not (h : tE K C W (.not ca) σ H Q) : tNotV (tE K C W ca) σ H Q := by
  obtain ⟨ω, e, rfl, r, er, h⟩ := h
  have h : Rn K C.L (((evE C.P C.F ca e ω.S).bnd fun x S1 => lift (asB x) S1).bnd fun b S1 => .ok (.bl (!b)) S1) (fun ω' d => ∀ v, RV K C.L ω' d v → Q v ω'.H) (JXof K C.L W σ) ω := h
  rw [Re.assoc] at h
  refine tE.step r er h fun ω1 d1 v1 e1 r1 q1 h1 => ?_
  obtain ⟨b, hb, h2⟩ := Rn.lift (Rn.bnd h1)
  exact ⟨b, q1.asB hb, (h2.here r1).here r1 _ rfl⟩
theorem j_not {Q : Bool → Hp → Prop} (h : tT K C W (.not ca) σ H Q) : tNot (tT K C W ca) σ H Q := by
  obtain ⟨ω, e, rfl, r, er, h⟩ := h
  have h : Rn K C.L (((tB (evE C.P C.F ca e ω.S)).bnd fun b S1 => .ok (.bl (!b)) S1).bnd fun x S1 => lift (asB x) S1) (fun ω' b => Q b ω'.H) (JXof K C.L W σ) ω := h
  rw [Re.assoc] at h
  refine tT.step r er h fun ω1 b e1 r1 h1 => ?_
  exact Rn.here (h1 : Rn K C.L (.ok (!b) ω1.S) _ _ ω1) r1
theorem i_and (h : tE K C W (.and ca cb) σ H Q) : tAndV (tE K C W ca) (tE K C W cb) σ H Q := by
  obtain ⟨ω, e, rfl, r, er, h⟩ := h
  have h : Rn K C.L (((evE C.P C.F ca e ω.S).bnd fun x S1 => lift (asB x) S1).bnd fun c S1 => if c then (tB (evE C.P C.F cb e S1)).bnd fun d S2 => .ok (.bl d) S2 else .ok (.bl false) S1) (fun ω' d => ∀ v, RV K C.L ω' d v → Q v ω'.H) (JXof K C.L W σ) ω := h
  rw [Re.assoc] at h
  refine tE.step r er h fun ω1 d1 v1 e1 r1 q1 h1 => ?_
  obtain ⟨b, hb, h2⟩ := Rn.lift (Rn.bnd h1)
  refine ⟨b, q1.asB hb, ?_⟩
  have h3 := h2.here r1
  cases b with
  | true =>
    rw [if_pos rfl] at h3 ⊢
    rw [tB, Re.assoc] at h3
    refine tE.step r1 (er.mono e1) h3 fun ω2 d2 v2 e2 r2 q2 h4 => ?_
    obtain ⟨b2, hb2, h5⟩ := Rn.lift (Rn.bnd h4)
    rw [q2.asB hb2]
    exact (h5.here r2).here r2 _ rfl
  | false =>
    rw [if_neg Bool.false_ne_true] at h3 ⊢
    exact h3.here r1 _ rfl
theorem i_or (h : tE K C W (.or ca cb) σ H Q) : tOrV (tE K C W ca) (tE K C W cb) σ H Q := by
  obtain ⟨ω, e, rfl, r, er, h⟩ := h
  have h : Rn K C.L (((evE C.P C.F ca e ω.S).bnd fun x S1 => lift (asB x) S1).bnd fun c S1 => if c then .ok (.bl true) S1 else (tB (evE C.P C.F cb e S1)).bnd fun d S2 => .ok (.bl d) S2) (fun ω' d => ∀ v, RV K C.L ω' d v → Q v ω'.H) (JXof K C.L W σ) ω := h
  rw [Re.assoc] at h
  refine tE.step r er h fun ω1 d1 v1 e1 r1 q1 h1 => ?_
  obtain ⟨b, hb, h2⟩ := Rn.lift (Rn.bnd h1)
  refine ⟨b, q1.asB hb, ?_⟩
  have h3 := h2.here r1
  cases b with
  | true =>
    rw [if_pos rfl] at h3 ⊢
    exact h3.here r1 _ rfl
  | false =>
    rw [if_neg Bool.false_ne_true] at h3 ⊢
    rw [tB, Re.assoc] at h3
    refine tE.step r1 (er.mono e1) h3 fun ω2 d2 v2 e2 r2 q2 h4 => ?_
    obtain ⟨b2, hb2, h5⟩ := Rn.lift (Rn.bnd h4)
    rw [q2.asB hb2]
    exact (h5.here r2).here r2 _ rfl
theorem j_and {Q : Bool → Hp → Prop} (h : tT K C W (.and ca cb) σ H Q) : tAnd (tT K C W ca) (tT K C W cb) σ H Q := by
  obtain ⟨ω, e, rfl, r, er, h⟩ := h
  have h : Rn K C.L (((tB (evE C.P C.F ca e ω.S)).bnd fun c S1 => if c then (tB (evE C.P C.F cb e S1)).bnd fun d S2 => .ok (.bl d) S2 else .ok (.bl false) S1).bnd fun x S1 => lift (asB x) S1) (fun ω' b => Q b ω'.H) (JXof K C.L W σ) ω := h
  rw [Re.assoc] at h
  refine tT.step r er h fun ω1 b e1 r1 h1 => ?_
  cases b with
  | true =>
    rw [if_pos rfl] at h1 ⊢
    rw [Re.assoc] at h1
    refine tT.step r1 (er.mono e1) h1 fun ω2 b2 e2 r2 h2 => ?_
    exact Rn.here (h2 : Rn K C.L (.ok b2 ω2.S) _ _ ω2) r2
  | false =>
    rw [if_neg Bool.false_ne_true] at h1 ⊢
    exact Rn.here (h1 : Rn K C.L (.ok false ω1.S) _ _ ω1) r1
theorem j_or {Q : Bool → Hp → Prop} (h : tT K C W (.or ca cb) σ H Q) : tOr (tT K C W ca) (tT K C W cb) σ H Q := by
  obtain ⟨ω, e, rfl, r, er, h⟩ := h
  have h : Rn K C.L (((tB (evE C.P C.F ca e ω.S)).bnd fun c S1 => if c then .ok (.bl true) S1 else (tB (evE C.P C.F cb e S1)).bnd fun d S2 => .ok (.bl d) S2).bnd fun x S1 => lift (asB x) S1) (fun ω' b => Q b ω'.H) (JXof K C.L W σ) ω := h
  rw [Re.assoc] at h
  refine tT.step r er h fun ω1 b e1 r1 h1 => ?_
  cases b with
  | true =>
    rw [if_pos rfl] at h1 ⊢
    exact Rn.here (h1 : Rn K C.L (.ok true ω1.S) _ _ ω1) r1
  | false =>
    rw [if_neg Bool.false_ne_true] at h1 ⊢
    rw [Re.assoc] at h1
    refine tT.step r1 (er.mono e1) h1 fun ω2 b2 e2 r2 h2 => ?_
    exact Rn.here (h2 : Rn K C.L (.ok b2 ω2.S) _ _ ω2) r2
theorem i_ite (h : tE K C W (.ite cc ca cb) σ H Q) : tIf (tT K C W cc) (tE K C W ca) (tE K C W cb) σ H Q := by
  obtain ⟨ω, e, rfl, r, er, h⟩ := h
  refine tT.step r er h fun ω1 b e1 r1 h1 => ?_
  cases b with
  | true =>
    rw [if_pos rfl] at h1 ⊢
    exact ⟨ω1, e, rfl, r1, er.mono e1, h1⟩
  | false =>
    rw [if_neg Bool.false_ne_true] at h1 ⊢
    exact ⟨ω1, e, rfl, r1, er.mono e1, h1⟩
theorem i_tup {cs : List CE} (h : tE K C W (.tup cs) σ H Q) : tTup (tA K C W cs) σ H Q := by
  obtain ⟨ω, e, rfl, r, er, h⟩ := h
  refine tA.step r er h fun ω1 ds vs e1 r1 q1 h1 => ?_
  split at h1
  · rename_i hl
    exact ⟨by rw [q1.length, ← lim_line]; exact hl, new_tup r1 q1 fun ω' v ev re es rv => h1 ω' ev re es v rv⟩
  · exact h1.elim
/-- a new live list -/
theorem new_live {L : Lnk} (r : Rel K L ω) {ds : List D} {vs : List V} (rv : RVs K L ω ds vs) {Q : VK} (h : ∀ ω' v, Ev K ω ω' → Rel K L ω' → ω'.S = ω.S ++ [some (.lst ds)] → RV K L ω' (.ref ω.S.length) v → Q v ω'.H) : ∀ p, ω.H p = none → Q (.ref p) (upd ω.H p (.lst vs)) := fun p hp => by
  have ev : Ev K ω (ω.laid p (.lst vs) (.lst ds)) := Ev.laid r hp
  refine h (ω.laid p (.lst vs) (.lst ds)) (.ref p) ev (Rel.laid r hp ⟨vs, upd_same, RVs.mono ev ds rv⟩) rfl ⟨by simp [Wd.laid], ?_⟩
  show V.ref p = .ref (if ω.S.length = ω.S.length then p else _)
  rw [if_pos rfl]
theorem i_lst {live : Bool} {cs : List CE} (h : tE K C W (.lst live cs) σ H Q) : tLst (tA K C W cs) σ H Q := by
  obtain ⟨ω, e, rfl, r, er, h⟩ := h
  refine tA.step r er h fun ω1 ds vs e1 r1 q1 h1 => ?_
  split at h1
  · rename_i hl
    refine ⟨by rw [q1.length, ← lim_line]; exact hl, ?_⟩
    cases live with
    | true => exact new_live r1 q1 fun ω' v ev re es rv => h1 ω' ev re es v rv
    | false => exact new_lst r1 q1 fun ω' v ev re es rv => h1 ω' ev re es v rv
  · exact h1.elim
theorem i_slc {cl ch : Option CE} (h : tE K C W (.slc ca cl ch) σ H Q) : tSl (rSl K C.L) (tE K C W ca) (tO K C W cl) (tO K C W ch) σ H Q := by
  obtain ⟨ω, e, rfl, r, er, h⟩ := h
  refine tE.step r er h fun ω1 d1 v1 e1 r1 q1 h1 => ?_
  refine tO.step r1 (er.mono e1) h1 fun ω2 o2 e2 r2 h2 => ?_
  refine tO.step r2 ((er.mono e1).mono e2) h2 fun ω3 o3 e3 r3 h3 => ?_
  obtain ⟨d, hd, h4⟩ := Rn.lift h3
  exact ⟨ω3, d1, d, rfl, r3, RV.mono (e2.trans e3) d1 q1, hd, fun ω' v ev re es rv => h4 ω' ev re es v rv⟩
theorem i_rev {live : Bool} (h : tE K C W (.rev live ca) σ H Q) : tRevL K (tE K C W ca) σ H Q := by
  obtain ⟨ω, e, rfl, r, er, h⟩ := h
  refine tE.step r er h fun ω1 d1 v1 e1 r1 q1 h1 => ?_
  split at h1
  · rename_i ds e2
    obtain ⟨a, vs, rfl, hq, rs⟩ := asL_R r1 e2 q1
    refine ⟨a, vs, rfl, hq, ?_⟩
    cases live with
    | true => exact new_live r1 rs.reverse fun ω' v ev re es rv => h1 ω' ev re es v rv
    | false => exact new_lst r1 rs.reverse fun ω' v ev re es rv => h1 ω' ev re es v rv
  · exact h1.elim
theorem i_nil (h : tA K C W [] σ H Q') : tNil σ H Q' := by
  obtain ⟨ω, e, rfl, r, er, h⟩ := h
  exact h.here r _ rfl
theorem i_cons {cs : List CE} (h : tA K C W (ca :: cs) σ H Q') : tCons (tE K C W ca) (tA K C W cs) σ H Q' := by
  obtain ⟨ω, e, rfl, r, er, h⟩ := h
  refine tE.step r er h fun ω1 d1 v1 e1 r1 q1 h1 => ?_
  refine tA.step r1 (er.mono e1) h1 fun ω2 ds vs e2 r2 q2 h2 => ?_
  exact h2.here r2 _ ⟨v1, vs, rfl, RV.mono e2 d1 q1, q2⟩
theorem i_noPart (h : tO K C W none σ H Q') : tNoPart σ H Q' := by
  obtain ⟨ω, e, rfl, r, er, h⟩ := h
  exact h.here r
theorem i_part (h : tO K C W (some ca) σ H Q') : tPart (tE K C W ca) σ H Q' := by
  obtain ⟨ω, e, rfl, r, er, h⟩ := h
  refine tE.step r er h fun ω1 d1 v1 e1 r1 q1 h1 => ?_
  split at h1
  · exact ⟨_, q1, h1.here r1⟩
  · exact h1.elim
end
end Mi
end
section
set_option Elab.async false
set_option linter.all false
set_option maxRecDepth 100000
set_option maxHeartbeats 4000000
/-! Calls of defs, with the guards known. -/
namespace Mi
open PySem PySem.Spec PyProof.Rows L2
/-- a def's contract where nothing is being shown by repr -/
structure FnG (P : Program) (w : World) (K : PySem.W.Frag) (mg : Str → Option Value) (base : Heap) (k : Nat) (f : Addr) (fd : FuncData) (ps : List Str) (sp : Sp) : Prop where
  len : ∀ vs H Q E, sp vs H Q E → vs.length = ps.length
  run : ∀ (A : Around) (outer : List PySem.Env) (s : Shared) (H : Hp) (args : Args) (us : List Value) (vs : List V) (Q : VK) (E : XK), Room k A → A.guards = some [] →
    Env0 P w K mg base A outer s H → BindsTo s fd args (ps.zip us) → Vals vs us → sp vs H Q E → codeAny (model P w) A (.call (.ref f) args) (CR (L2.CX P w) outer P w H s Q E) s
theorem FnG.mono {P : Program} {w : World} {K : PySem.W.Frag} {mg : Str → Option Value} {base : Heap} {j k : Nat} {f : Addr} {fd : FuncData} {ps : List Str} {sp : Sp} (F : FnG P w K mg base j f fd ps sp) (h : j ≤ k) : FnG P w K mg base k f fd ps sp :=
  ⟨F.len, fun A outer s H args us vs Q E hr => F.run A outer s H args us vs Q E (hr.mono h)⟩
section
variable {P : Program} {w : World} {K : PySem.W.Frag} {mg : Str → Option Value} {base : Heap} {k : Nat} {f : Addr} {name qual : Str} {params : Arguments} {body : List Stmt} {scope : Scope} {dV kV doc pm cdv ct oc : Value} {an od : Option Addr}
  {osl : Array (Option Value)} {N ps : List Str} {sp : Sp}
/-- a def of the text keeps its contract if its body does -/
theorem fnG_of (look : K.lookup f = some ⟨oc, od, .func (PySem.W.fnOf name qual params body scope dV kV doc pm an cdv ct), osl⟩) (code : PySem.W.codeIn K cdv qual = true) (S : FnScope N ps scope)
    (len : ∀ vs H Q E, sp vs H Q E → vs.length = ps.length)
    (hb : ∀ (A : Around) (outer : List PySem.Env) (s : Shared) (H : Hp) (vs : List V) (Q : VK) (E : XK), Room k (A.deeper (envOfC qual scope s.heap.objs.size f cdv)) → A.guards = some [] → sp vs H Q E →
      ∃ t, PSs (cxOf (L2.CX P w) P w K mg base N qual scope f cdv A outer s H E) body t ∧ t { nx := fun _ H' => Q .non H', rt := Q } (start N vs) H) :
    FnG P w K mg base (k + 1) f (PySem.W.fnOf name qual params body scope dV kV doc pm an cdv ct) ps sp := by
  -- one run of the body, as the layer's rule has it for every caller: the guards are one more fact
  constructor
  · exact len
  · intro A outer s H args us vs Q E room gu e0 binds rel want
    have hlen := len vs H Q E want
    have inK : K.In s.heap := e0.mod.kin.keeps fun b o h => (e0.bs b o h).1
    have noLim : s.heap.NoLimit := e0.mod.nolimit.keeps fun b o h => (e0.bs b o h).1
    have slots : ∀ y ∈ ps.zip us, scope.names.lookup y.1 = some .local ∨ (scope.names.lookup y.1 = some .cell ∧ ((cellsFrom (s.heap.objs.size + 1) scope.names []).lookup y.1).isSome = true) := by
      intro y hy
      rcases S.par y.1 (List.of_mem_zip hy).1 with z | z
      · exact Or.inl z
      · exact Or.inr ⟨z, PySem.W.cellsFrom_some _ _ _ (Or.inl z)⟩
    refine codeAny_call_function room.depth (inK _ _ look) rfl S.co S.gen rfl (PySem.W.codeRec_of inK code) (binds _ _ _ _ ?_)
    refine wpAny_newFunctionEnv_cells S.kind slots fun env henv s1 into => ?_
    subst henv
    refine ⟨noLim.keeps into.toInCall.keep, codeAny_func ?_⟩
    obtain ⟨t, ht, want2⟩ := hb A outer s H vs Q E (room.deeper _) gu want
    have J0 : L2.Inv (cxOf (L2.CX P w) P w K mg base N qual scope f cdv A outer s H E) [] (start N vs) H s1 := inv_start S room.hd e0 hlen rel into
    refine wpAny_mono (ht.run [] s1 (start N vs) H _ J0 want2) (fun fl s2 done => ?_) fun _ _ q => q
    cases fl with
    | next => obtain ⟨σ2, H2, J, q⟩ := done; exact ⟨.non, H2, J.os, J.bare, J.base, J.hok, rfl, q⟩
    | ret u => obtain ⟨v, σ2, H2, J, rv, q⟩ := done; exact ⟨v, H2, J.os, J.bare, J.base, J.hok, rv, q⟩
    | brk => exact done.elim fun _ z => z.elim fun _ z => z.2.elim
    | cont => exact done.elim fun _ z => z.elim fun _ z => z.2.elim
end
/-- the number of a def, what it is called with, what it gives: by the interpreter -/
def spG (K : PySem.W.Frag) (C : Cn) (g : Nat) (n : Nat) : Sp := fun vs H Q E => ∃ ω ds, ω.H = H ∧ Rel K C.L ω ∧ RVs K C.L ω ds vs ∧ ds.length = n ∧
  Rn K C.L (C.F g ds ω.S) (fun ω' d => ∀ v, RV K C.L ω' d v → Q v ω'.H) (fun ω' c fs => ∀ dx, XR K C.L ω' fs dx → E (.ref (C.L.ga c)) dx ω'.H) ω
section
variable {X : Cx} {W : WX} {C : Cn} {k : Nat} {f : Addr} {fd : FuncData} {ps : List Str} {sp : Sp} {E : L2.St → XK}
theorem run_G {pins : List (Addr × Obj)} {σ : L2.St} {H : Hp} {s : Shared} {Q : VK} {us : List Value} {vs : List V} (F : FnG X.prog X.w X.K X.mg X.base k f fd ps sp) (hr : Room k X.A) (gu : X.A.guards = some []) (hb : Binds X.K fd ps []) (tk : Takes X W)
    (I : L2.Inv X pins σ H s) (r : Vals vs us) (h : sp vs H Q (fun c d H' => W c d σ H')) : wpAny (model X.prog X.w) X.A (call (.ref f) us) (EP X pins σ Q) X.xe s := by
  have hl : (us ++ []).length = ps.length := by rw [List.append_nil, ← r.length]; exact F.len _ _ _ _ h
  have hbt := hb s us I.kIn hl
  rw [List.append_nil] at hbt
  refine wpAny_call (codeAny_mono (F.run X.A X.stack s H ⟨us, []⟩ us vs Q _ hr gu I.env0 hbt r h) fun res s' q => ?_)
  match res, q with
  | .error ex, q => exact tk ex s' (XE.of_call (W := W) I (fun _ _ _ z => z) q)
  | .ok (.ret u), q => exact I.after q
  | .ok .next, q => exact q.elim
  | .ok .brk, q => exact q.elim
  | .ok .cont, q => exact q.elim
end
end Mi
end
section
set_option Elab.async false
set_option linter.all false
set_option maxRecDepth 100000
set_option maxHeartbeats 4000000
/-! Built-ins, isinstance, methods of built-in types, calls. -/
namespace Mi
open PySem PySem.Spec PyProof.Rows L2
section
variable {L : Lnk} {X : Cx} {ω : Wd}
def rVB (K : PySem.W.Frag) (L : Lnk) (op : Mi.St → List D → Option D) : List V → Hp → VK → Prop := fun xs H Q => ∃ ω ds d, ω.H = H ∧ Rel K L ω ∧ RVs K L ω ds xs ∧ op ω.S ds = some d ∧ ∀ ω' v, Ev K ω ω' → Rel K L ω' → ω'.S = ω.S → RV K L ω' d v → Q v ω'.H
theorem rvs1 {K : PySem.W.Frag} {d : D} {vs : List V} (h : RVs K L ω [d] vs) : ∃ v, vs = [v] ∧ RV K L ω d v := by
  obtain ⟨v, r, rfl, h1, h2⟩ := h
  cases h2
  exact ⟨v, rfl, h1⟩
theorem rvs2 {K : PySem.W.Frag} {d e : D} {vs : List V} (h : RVs K L ω [d, e] vs) : ∃ v u, vs = [v, u] ∧ RV K L ω d v ∧ RV K L ω e u := by
  obtain ⟨v, r, rfl, h1, h2⟩ := h
  obtain ⟨u, rfl, h3⟩ := rvs1 h2
  exact ⟨v, u, rfl, h1, h3⟩
theorem ints_R {K : PySem.W.Frag} : ∀ {ds : List D} {is : List Int} {vs : List V}, intsOf ds = some is → RVs K L ω ds vs → vs = is.map V.int
  | [], _, _, h, r => by cases h; cases r; rfl
  | d :: ds, is, _, h, ⟨v, r, h1, h2, h3⟩ => by
    cases d <;> simp [intsOf] at h
    obtain ⟨js, hj, rfl⟩ := h
    cases h2
    rw [h1, ints_R hj h3]
    rfl
theorem bls_R {K : PySem.W.Frag} : ∀ {ds : List D} {is : List Bool} {vs : List V}, blsOf ds = some is → RVs K L ω ds vs → vs = is.map V.bl
  | [], _, _, h, r => by cases h; cases r; rfl
  | d :: ds, is, _, h, ⟨v, r, h1, h2, h3⟩ => by
    cases d <;> simp [blsOf] at h
    obtain ⟨js, hj, rfl⟩ := h
    cases h2
    rw [h1, bls_R hj h3]
    rfl
theorem strs_R {K : PySem.W.Frag} : ∀ {ds : List D} {is : List Sg} {vs : List V}, strsOf ds = some is → RVs K L ω ds vs → vs = (is.map toStr).map V.str ∧ ∀ x ∈ is, okS x
  | [], _, _, h, r => by cases h; cases r; exact ⟨rfl, fun _ z => nomatch z⟩
  | d :: ds, is, _, h, ⟨v, r, h1, h2, h3⟩ => by
    cases d <;> simp [strsOf] at h
    obtain ⟨js, hj, rfl⟩ := h
    obtain ⟨h2, h4⟩ := h2
    obtain ⟨h5, h6⟩ := strs_R hj h3
    refine ⟨by rw [h1, h2, h5]; rfl, fun x hx => ?_⟩
    rcases List.mem_cons.mp hx with rfl | hx
    · exact h4
    · exact h6 x hx
theorem noPy {i j : Int} (h0 : 0 < j) (h1 : j < P64) : CDivP i j := by
  refine ⟨h0, ?_⟩
  unfold Builtin.divisionGoesByPylong
  have hj : j.natAbs < 2 ^ 64 := by unfold P64 at h1; omega
  have hl : j.natAbs.log2 < 64 := PySem.Flt.log2_lt_of (by decide) hj
  have hne : (j == 0) = false := by rw [beq_eq_false_iff_ne]; omega
  simp only [hne, Bool.false_eq_true, if_false, Bool.and_eq_false_iff, decide_eq_false_iff_not]
  left
  omega
/-- what the built-ins are in the model -/
def biV : Bi → Value
  | .len => .builtin "len" | .abs => .builtin "abs" | .min => .builtin "min" | .max => .builtin "max" | .rep => .builtin "repr" | .str => .type "str" | .int => .type "int" | .list => .type "list" | .tup => .type "tuple"
  | .dict => .type "dict" | .sum => .builtin "sum" | .all => .builtin "all" | .any => .builtin "any" | .divmod => .builtin "divmod"
def CallB (X : Cx) (L : Lnk) (b : Bi) : Prop := CallR X (biV b) (rVB X.K L fun S => biOp S b)
theorem c_len : CallB X L .len := by
  intro pins s σ H xs us Q I rx h
  obtain ⟨ω, ds, d, rfl, r, rs, h0, k⟩ := h
  have here : ∀ {v}, RV X.K L ω d v → Q v ω.H := fun {v} q => k ω v (Ev.refl ω) r rfl q
  have ho : biOp ω.S .len ds = some d := h0
  clear h0
  unfold biOp at ho
  split at ho <;> try (first | contradiction | (cases ho; done))
  · cases ho
    obtain ⟨v, rfl, rv, ok⟩ := rvs1 rs
    subst rv
    exact call_len pins s σ _ _ us Q I rx ⟨_, _, rfl, ⟨by rw [toStr_length, ← lim_line]; exact ok.2, rfl⟩, here (by rw [toStr_length]; rfl)⟩
  · cases ho
    obtain ⟨v, rfl, a, ws, rfl, hd, rk⟩ := rvs1 rs
    obtain ⟨u, rfl, ru⟩ := vals1 rx
    cases ru
    have hl : ∀ {kvs : List (D × D)} {ws : List (Key × V)}, RVk X.K L ω kvs ws → ws.length = kvs.length := by
      intro kvs
      induction kvs with
      | nil => intro ws h; cases h; rfl
      | cons p r ih => intro ws ⟨k, v, rest, h1, _, _, h4⟩; subst h1; simp [ih h4]
    refine d_len I (dfrz_R hd) fun t s' I' => ⟨.int ws.length, ω.H, I', ⟨_, rfl⟩, ?_⟩
    exact here (by rw [hl rk]; rfl)
  · rename_i a h1 h2 h3
    cases e : asSeq ω.S a with
    | none => rw [e] at ho; cases ho
    | some es =>
      rw [e] at ho
      cases ho
      obtain ⟨v, rfl, rv⟩ := rvs1 rs
      obtain ⟨p, vs, rfl, hq, rs2⟩ := asSeq_R r e rv
      exact call_len_seq pins s σ _ _ us Q I rx ⟨p, vs, rfl, hq, here (by rw [rs2.length]; rfl)⟩
theorem c_abs : CallB X L .abs := by
  intro pins s σ H xs us Q I rx h
  obtain ⟨ω, ds, d, rfl, r, rs, h0, k⟩ := h
  have ho : biOp ω.S .abs ds = some d := h0
  clear h0
  unfold biOp at ho
  split at ho <;> try (first | contradiction | (cases ho; done))
  cases ho
  obtain ⟨v, rfl, rv⟩ := rvs1 rs
  cases rv
  exact call_abs pins s σ _ _ us Q I rx ⟨_, rfl, k ω _ (Ev.refl ω) r rfl rfl⟩
theorem c_min (hc : X.calm = true) : CallB X L .min := by
  intro pins s σ H xs us Q I rx h
  obtain ⟨ω, ds, d, rfl, r, rs, h0, k⟩ := h
  have ho : biOp ω.S .min ds = some d := h0
  clear h0
  unfold biOp at ho
  split at ho <;> try (first | contradiction | (cases ho; done))
  cases ho
  obtain ⟨v, u, rfl, rv, ru⟩ := rvs2 rs
  cases rv
  cases ru
  exact call_min2 hc pins s σ _ _ us Q I rx ⟨_, _, rfl, k ω _ (Ev.refl ω) r rfl rfl⟩
theorem c_max (hc : X.calm = true) : CallB X L .max := by
  intro pins s σ H xs us Q I rx h
  obtain ⟨ω, ds, d, rfl, r, rs, h0, k⟩ := h
  have ho : biOp ω.S .max ds = some d := h0
  clear h0
  unfold biOp at ho
  split at ho <;> try (first | contradiction | (cases ho; done))
  cases ho
  obtain ⟨v, u, rfl, rv, ru⟩ := rvs2 rs
  cases rv
  cases ru
  exact call_max2 hc pins s σ _ _ us Q I rx ⟨_, _, rfl, k ω _ (Ev.refl ω) r rfl rfl⟩
theorem c_int : CallB X L .int := by
  intro pins s σ H xs us Q I rx h
  obtain ⟨ω, ds, d, rfl, r, rs, h0, k⟩ := h
  have ho : biOp ω.S .int ds = some d := h0
  clear h0
  unfold biOp at ho
  split at ho <;> try (first | contradiction | (cases ho; done))
  · cases ho
    obtain ⟨v, rfl, rv⟩ := rvs1 rs
    cases rv
    exact call_int1 pins s σ _ _ us Q I rx (.inl ⟨_, rfl, k ω _ (Ev.refl ω) r rfl rfl⟩)
  · cases ho
    obtain ⟨v, rfl, rv⟩ := rvs1 rs
    cases rv
    exact call_int1 pins s σ _ _ us Q I rx (.inr ⟨_, rfl, k ω _ (Ev.refl ω) r rfl rfl⟩)
theorem c_list : CallB X L .list := by
  intro pins s σ H xs us Q I rx h
  obtain ⟨ω, ds, d, rfl, r, rs, h0, k⟩ := h
  have ho : biOp ω.S .list ds = some d := h0
  clear h0
  unfold biOp at ho
  split at ho <;> try (first | contradiction | (cases ho; done))
  rename_i a h1
  cases e : asSeq ω.S a with
  | none => rw [e] at ho; cases ho
  | some es =>
    rw [e] at ho
    cases ho
    obtain ⟨v, rfl, rv⟩ := rvs1 rs
    obtain ⟨p, vs, rfl, hq, rs2⟩ := asSeq_R r e rv
    exact call_list_of pins s σ _ _ us Q I rx ⟨p, vs, rfl, hq, new_lst r rs2 k⟩
theorem c_tup : CallB X L .tup := by
  intro pins s σ H xs us Q I rx h
  obtain ⟨ω, ds, d, rfl, r, rs, h0, k⟩ := h
  have ho : biOp ω.S .tup ds = some d := h0
  clear h0
  unfold biOp at ho
  split at ho <;> try (first | contradiction | (cases ho; done))
  rename_i a h1
  cases e : asSeq ω.S a with
  | none => rw [e] at ho; cases ho
  | some es =>
    rw [e] at ho
    cases ho
    obtain ⟨v, rfl, rv⟩ := rvs1 rs
    unfold asSeq at e
    split at e
    · cases e
      obtain ⟨p, vs, rfl, ht, rs2⟩ := rv
      exact call_tuple_of pins s σ _ _ us Q I rx ⟨p, vs, rfl, .inr ⟨ht.sq, k ω _ (Ev.refl ω) r rfl ⟨p, vs, rfl, ht, rs2⟩⟩⟩
    · obtain ⟨p, vs, rfl, hq, rs2⟩ := asL_R r e rv
      exact call_tuple_of pins s σ _ _ us Q I rx ⟨p, vs, rfl, .inl ⟨hq, new_tup r rs2 k⟩⟩
theorem c_sum (hc : X.calm = true) : CallB X L .sum := by
  intro pins s σ H xs us Q I rx h
  obtain ⟨ω, ds, d, rfl, r, rs, h0, k⟩ := h
  have ho : biOp ω.S .sum ds = some d := h0
  clear h0
  unfold biOp at ho
  split at ho <;> try (first | contradiction | (cases ho; done))
  rename_i a h1
  cases e : asL ω.S a with
  | none => rw [e] at ho; cases ho
  | some es =>
    rw [e] at ho
    simp only [Option.bind_some] at ho
    cases e2 : intsOf es with
    | none => rw [e2] at ho; cases ho
    | some is =>
      rw [e2] at ho
      cases ho
      obtain ⟨v, rfl, rv⟩ := rvs1 rs
      obtain ⟨p, vs, rfl, hq, rs2⟩ := asL_R r e rv
      rw [ints_R e2 rs2] at hq
      exact cr_sum hc pins s σ _ _ us Q I rx ⟨p, is, rfl, hq, k ω _ (Ev.refl ω) r rfl rfl⟩
theorem c_all (hc : X.calm = true) : CallB X L .all := by
  intro pins s σ H xs us Q I rx h
  obtain ⟨ω, ds, d, rfl, r, rs, h0, k⟩ := h
  have ho : biOp ω.S .all ds = some d := h0
  clear h0
  unfold biOp at ho
  split at ho <;> try (first | contradiction | (cases ho; done))
  rename_i a h1
  cases e : asL ω.S a with
  | none => rw [e] at ho; cases ho
  | some es =>
    rw [e] at ho
    simp only [Option.bind_some] at ho
    cases e2 : blsOf es with
    | none => rw [e2] at ho; cases ho
    | some is =>
      rw [e2] at ho
      cases ho
      obtain ⟨v, rfl, rv⟩ := rvs1 rs
      obtain ⟨p, vs, rfl, hq, rs2⟩ := asL_R r e rv
      rw [bls_R e2 rs2] at hq
      exact cr_all hc pins s σ _ _ us Q I rx ⟨p, is, rfl, hq, k ω _ (Ev.refl ω) r rfl rfl⟩
theorem c_any (hc : X.calm = true) : CallB X L .any := by
  intro pins s σ H xs us Q I rx h
  obtain ⟨ω, ds, d, rfl, r, rs, h0, k⟩ := h
  have ho : biOp ω.S .any ds = some d := h0
  clear h0
  unfold biOp at ho
  split at ho <;> try (first | contradiction | (cases ho; done))
  rename_i a h1
  cases e : asL ω.S a with
  | none => rw [e] at ho; cases ho
  | some es =>
    rw [e] at ho
    simp only [Option.bind_some] at ho
    cases e2 : blsOf es with
    | none => rw [e2] at ho; cases ho
    | some is =>
      rw [e2] at ho
      cases ho
      obtain ⟨v, rfl, rv⟩ := rvs1 rs
      obtain ⟨p, vs, rfl, hq, rs2⟩ := asL_R r e rv
      rw [bls_R e2 rs2] at hq
      exact cr_any hc pins s σ _ _ us Q I rx ⟨p, is, rfl, hq, k ω _ (Ev.refl ω) r rfl rfl⟩
theorem c_divmod : CallB X L .divmod := by
  intro pins s σ H xs us Q I rx h
  obtain ⟨ω, ds, d, rfl, r, rs, h0, k⟩ := h
  have ho : biOp ω.S .divmod ds = some d := h0
  clear h0
  unfold biOp at ho
  split at ho <;> try (first | contradiction | (cases ho; done))
  split at ho
  · rename_i hc
    cases ho
    obtain ⟨v, u, rfl, rv, ru⟩ := rvs2 rs
    cases rv
    cases ru
    exact call_divmodW pins s σ _ _ us Q I rx ⟨_, _, rfl, noPy hc.1 hc.2, new_tup r (ds := [.int _, .int _]) ⟨_, _, rfl, rfl, _, _, rfl, rfl, rfl⟩ k⟩
  · cases ho
end
end Mi
end
section
set_option Elab.async false
set_option linter.all false
set_option maxRecDepth 100000
set_option maxHeartbeats 4000000
/-! repr of data. -/
namespace Mi
open PySem PySem.Spec PyProof.Rows L2
section
variable {L : Lnk} {X : Cx} {ω : Wd} {pins : List (Addr × Obj)} {σ : L2.St} {s : Shared}
/-- the addresses that a datum reads are not the modules' dict -/
def SysD (K : PySem.W.Frag) : Prop := ∃ o, K.lookup sysModules = some o ∧ o.cls = .type "dict"
theorem not_sys (hsys : SysD X.K) {H : Hp} (I : L2.Inv X pins σ H s) {a : Addr} {o : Obj} (e : s.heap.get? a = some o) (hc : o.cls = .type "list") : a ≠ sysModules := by
  rintro rfl
  obtain ⟨o', h1, h2⟩ := hsys
  have h3 := I.kIn sysModules o' h1
  rw [e] at h3
  cases h3
  rw [hc] at h2
  exact absurd h2 (by decide)
theorem key_reads {h : Heap} {k : Key} {d : D} {v : Value} (hk : keyOf d = some k) (hv : keyIs k v = true) : Reads h v (pd d) [] := by
  rcases keyIs_shape hv with ⟨i, t, rfl, rfl⟩ | ⟨x, t, rfl, rfl⟩
  · cases d <;> simp [keyOf] at hk
    subst hk
    exact .int _ _
  · cases d <;> simp [keyOf] at hk
    subst hk
    exact .str _ _
mutual
theorem rep_R (hsys : SysD X.K) (I : L2.Inv X pins σ ω.H s) : ∀ (n : Nat) (d : D) (v : V) (u : Value), repOk n d = true → RV X.K L ω d v → RelV v u → ∃ as, Reads s.heap u (pd d) as ∧ sysModules ∉ as ∧ (pd d).showable = true ∧ (pd d).depth ≤ n
  | n, .non, _, _, _, h, r => by cases h; cases r; exact ⟨_, .none, by simp, rfl, by simp [pd, PyData.depth]⟩
  | n, .bl b, _, _, _, h, r => by cases h; cases r; exact ⟨_, .bool b, by simp, rfl, by simp [pd, PyData.depth]⟩
  | n, .int i, _, _, hf, h, r => by
    cases h
    obtain ⟨t, rfl⟩ := r
    exact ⟨_, .int i t, by simp, by cases n <;> simpa [repOk, pd, PyData.showable] using hf, by simp [pd, PyData.depth]⟩
  | n, .str x, _, _, _, ⟨h, o⟩, r => by
    subst h
    obtain ⟨t, rfl⟩ := r
    exact ⟨_, .str _ t, by simp, rfl, by simp [pd, PyData.depth]⟩
  | n + 1, .tup ds, _, _, hf, ⟨a, vs, h1, h2, h3⟩, r => by
    subst h1
    cases r
    obtain ⟨its, rv, ⟨o, ho, hc, m, hd⟩, _⟩ := I.tuple h2.sq
    obtain ⟨as, q1, q2, q3, q4⟩ := rep_Rs hsys I n ds vs its (by simpa [repOk] using hf) h3 rv
    exact ⟨as, .tuple ho hc hd q1, q2, by simpa [pd, PyData.showable] using q3, by simp only [pd, PyData.depth]; omega⟩
  | n + 1, .lst ds, _, _, hf, ⟨a, vs, h1, h2, h3⟩, r => by
    subst h1
    cases r
    obtain ⟨its, rv, ⟨o, m, ho, hc, _, hd⟩, _⟩ := I.list h2.sq
    obtain ⟨as, q1, q2, q3, q4⟩ := rep_Rs hsys I n ds vs its (by simpa [repOk] using hf) h3 rv
    refine ⟨a :: as, .list ho hc hd q1, ?_, by simpa [pd, PyData.showable] using q3, by simp only [pd, PyData.depth]; omega⟩
    simp only [List.mem_cons, not_or]
    exact ⟨fun z => not_sys hsys I ho hc z.symm, q2⟩
  | n + 1, .dct kvs, _, _, hf, ⟨a, ws, h1, h2, h3⟩, r => by
    subst h1
    cases r
    obtain ⟨_, lo, vs, rel, o, es, ep, ho, ex, hd, _, hp, _⟩ := dk_rd I.hok (dfrz_R h2)
    obtain ⟨as, bs, q1, q2, q3, q4, q5, q6⟩ := rep_Rk hsys I n kvs ws vs es.toList (by simpa [repOk] using hf) h3 rel hp
    refine ⟨a :: as ++ bs, .dict ho ex.1 hd q1 q2, ?_, by simpa [pd, PyData.showable] using q5, by simp only [pd, PyData.depth]; omega⟩
    simp only [List.cons_append, List.mem_cons, List.mem_append, not_or]
    exact ⟨fun z => by rw [z] at lo; simp at lo, q3, q4⟩
  | 0, .tup _, _, _, hf, _, _ => by simp [repOk] at hf
  | 0, .lst _, _, _, hf, _, _ => by simp [repOk] at hf
  | 0, .dct _, _, _, hf, _, _ => by simp [repOk] at hf
  | n, .lck _, _, _, hf, _, _ => by cases n <;> simp [repOk] at hf
  | n, .kdc _, _, _, hf, _, _ => by cases n <;> simp [repOk] at hf
  | n, .ty _, _, _, hf, _, _ => by cases n <;> simp [repOk] at hf
  | n, .glo _, _, _, hf, _, _ => by cases n <;> simp [repOk] at hf
  | n, .ref _, _, _, hf, _, _ => by cases n <;> simp [repOk] at hf
  | n, .xcp _ _, _, _, hf, _, _ => by cases n <;> simp [repOk] at hf
theorem rep_Rs (hsys : SysD X.K) (I : L2.Inv X pins σ ω.H s) : ∀ (n : Nat) (ds : List D) (vs : List V) (us : List Value), repOks n ds = true → RVs X.K L ω ds vs → Vals vs us → ∃ as, ReadsAll s.heap us (pds ds) as ∧ sysModules ∉ as ∧ PyData.showableAll (pds ds) = true ∧ PyData.depthAll (pds ds) ≤ n
  | n, [], _, _, _, h, r => by cases h; cases r; exact ⟨_, .nil, by simp, rfl, by simp [pds, PyData.depthAll]⟩
  | n, d :: ds, _, _, hf, ⟨v, r, h1, h2, h3⟩, rv => by
    subst h1
    have hf' : repOk n d = true ∧ repOks n ds = true := by simpa [repOks] using hf
    cases rv with
    | cons r1 r2 =>
      obtain ⟨as, a1, a2, a3, a4⟩ := rep_R hsys I n d v _ hf'.1 h2 r1
      obtain ⟨bs, b1, b2, b3, b4⟩ := rep_Rs hsys I n ds r _ hf'.2 h3 r2
      refine ⟨_, .cons a1 b1, by simp [a2, b2], by simp [pds, PyData.showableAll, a3, b3], ?_⟩
      simp only [pds, PyData.depthAll]
      omega
theorem rep_Rk (hsys : SysD X.K) (I : L2.Inv X pins σ ω.H s) : ∀ (n : Nat) (kvs : List (D × D)) (ws : List (Key × V)) (vs : List (Key × Value)) (es : List DictEntry), repOkv n kvs = true → RVk X.K L ω kvs ws → KV ws vs → Pairs (mixKind X.prog X.w) es vs →
    ∃ as bs, ReadsAll s.heap (es.map (·.key)) ((pkv kvs).map (·.1)) as ∧ ReadsAll s.heap (es.map (·.val)) ((pkv kvs).map (·.2)) bs ∧ sysModules ∉ as ∧ sysModules ∉ bs ∧ PyData.showableKv (pkv kvs) = true ∧ PyData.depthKv (pkv kvs) ≤ n
  | n, [], _, _, _, _, h, r, p => by
    cases h
    cases r
    cases p
    exact ⟨[], [], .nil, .nil, by simp, by simp, rfl, by simp [pkv, PyData.depthKv]⟩
  | n, (a, b) :: kvs, _, _, _, hf, ⟨k, v, r, h1, ⟨h2, _⟩, h3, h4⟩, rv, hp => by
    subst h1
    have hf' : ((scalD a = true ∧ repOk n a = true) ∧ repOk n b = true) ∧ repOkv n kvs = true := by simpa [repOkv] using hf
    cases rv with
    | @cons _ q _ _ r1 r2 =>
      obtain ⟨e1, r1⟩ := r1
      cases hp with
      | cons k1 k2 k3 =>
        obtain ⟨as, a1, a2, a3, a4⟩ := rep_R hsys I n b v _ hf'.1.2 h3 r1
        obtain ⟨cs, bs, b1, b2, b3, b4, b5, b6⟩ := rep_Rk hsys I n kvs r _ _ hf'.2 h4 r2 k3
        have ka : (pd a).showable = true ∧ (pd a).depth ≤ n := by
          cases a <;> simp [keyOf] at h2
          · exact ⟨by cases n <;> simpa [repOk, pd, PyData.showable] using hf'.1.1.2, by simp [pd, PyData.depth]⟩
          · exact ⟨rfl, by simp [pd, PyData.depth]⟩
        have e1 : k = q.1 := e1
        refine ⟨[] ++ cs, as ++ bs, .cons (key_reads (by rw [← e1]; exact h2) k1) b1, .cons (by dsimp only; rw [k2]; exact a1) b2, by simpa using b3, by simp [a2, b4], by simp [pkv, PyData.showableKv, ka.1, a3, b5], ?_⟩
        simp only [pkv, PyData.depthKv]
        omega
end
theorem vw_same {K : PySem.W.Frag} (r : Rel K L ω) {d : D} {v : V} (rv : RV K L ω d v) : (∃ n ds vs, d = .ref n ∧ ω.S[n]? = some (some (.lst ds)) ∧ v = .ref (ω.M n) ∧ ω.H (ω.M n) = some (.lst vs) ∧ RVs K L ω ds vs ∧ vw ω.S d = .lst ds) ∨ vw ω.S d = d := by
  cases d with
  | ref n =>
    cases e : ω.S[n]? with
    | none => exact .inr (by simp only [vw, e])
    | some o =>
      cases o with
      | none => exact .inr (by simp only [vw, e])
      | some o =>
        cases o with
        | lst ds =>
          obtain ⟨vs, h1, h2⟩ := r.live _ _ e
          exact .inl ⟨n, ds, vs, rfl, e, rv.2, h1, h2, by simp only [vw, e]⟩
        | dct kvs lk => exact .inr (by simp only [vw, e])
        | ins c fs => exact .inr (by simp only [vw, e])
  | _ => exact .inr rfl
/-! every sign of a shown text is one -/
def okC (x : Str) : Prop := ∀ c ∈ x.cps.toList, c < 0x110000
theorem okC_iff (x : Str) : PyData.strOk x = true ↔ okC x := by
  unfold PyData.strOk okC
  rw [Array.all_eq_true_iff_forall_mem]
  simp
theorem okC_of (z : String) : okC (Str.ofString z) := by
  rw [Str.ofString_eq_toList]
  intro c hc
  simp only [List.mem_map] at hc
  obtain ⟨ch, _, rfl⟩ := hc
  have := ch.valid
  unfold UInt32.isValidChar Nat.isValidChar at this
  show ch.val.toNat < _
  omega
theorem okC_app {x y : Str} (hx : okC x) (hy : okC y) : okC (x ++ y) := by
  intro c hc
  have hc : c ∈ (x.cps ++ y.cps).toList := hc
  rw [Array.toList_append] at hc
  rcases List.mem_append.mp hc with h | h
  · exact hx c h
  · exact hy c h
theorem okC_join {sep : Str} (hs : okC sep) : ∀ {l : List Str}, (∀ t ∈ l, okC t) → okC (Str.join sep l)
  | [], _ => fun c hc => by simp [Str.join, Str.empty] at hc
  | [x], h => h x (by simp)
  | x :: y :: r, h => okC_app (okC_app (h x (by simp)) hs) (okC_join hs fun t ht => h t (by simp only [List.mem_cons] at ht ⊢; exact .inr ht))
theorem okC_text : ∀ {ts : List Str} {k : Nat} {acc : Str}, okC acc → (∀ t ∈ ts, okC t) → okC (textFrom k acc ts)
  | [], _, _, h, _ => h
  | t :: ts, k, acc, h, q => by
    unfold textFrom
    exact okC_text (okC_app (okC_app h (okC_of _)) (q t (by simp))) fun x hx => q x (List.mem_cons_of_mem _ hx)
theorem okC_char {q c : Nat} (hc : c < 0x110000) : ∀ y ∈ Builtin.Str.reprChar q c, y < 0x110000 := by
  have hex : ∀ w y, y ∈ List.replicate (w - ((Nat.toDigits 16 c).map Char.toNat).length) 48 ++ (Nat.toDigits 16 c).map Char.toNat → y < 0x110000 := by
    intro w y hy
    rcases List.mem_append.mp hy with h | h
    · rw [(List.mem_replicate.mp h).2]; decide
    · obtain ⟨ch, _, rfl⟩ := List.mem_map.mp h
      have := ch.valid
      unfold UInt32.isValidChar Nat.isValidChar at this
      show ch.val.toNat < _
      omega
  intro y hy
  unfold Builtin.Str.reprChar at hy
  dsimp only at hy
  split at hy
  · simp at hy; omega
  · split at hy
    · simp at hy; omega
    · split at hy
      · simp at hy; omega
      · split at hy
        · simp at hy; omega
        · split at hy
          · simp at hy; omega
          · split at hy
            · rcases List.mem_append.mp hy with h | h
              · simp at h; omega
              · exact hex 2 y h
            · split at hy
              · rcases List.mem_append.mp hy with h | h
                · simp at h; omega
                · exact hex 4 y h
              · rcases List.mem_append.mp hy with h | h
                · simp at h; omega
                · exact hex 8 y h
theorem okC_rep {x : Str} (hx : okC x) : okC (reprText x) := by
  have hq : reprQuote x < 0x110000 := by unfold reprQuote; split <;> decide
  have fold : ∀ (l : List Nat) (acc : Array Nat), (∀ c ∈ l, c < 0x110000) → (∀ c ∈ acc.toList, c < 0x110000) → ∀ c ∈ (l.foldl (fun out c => out ++ (Builtin.Str.reprChar (reprQuote x) c).toArray) acc).toList, c < 0x110000 := by
    intro l
    induction l with
    | nil => intro acc _ h; exact h
    | cons c r ih =>
      intro acc h1 h2
      refine ih _ (fun d hd => h1 d (List.mem_cons_of_mem _ hd)) fun d hd => ?_
      rw [Array.toList_append] at hd
      rcases List.mem_append.mp hd with h | h
      · exact h2 d h
      · exact okC_char (h1 c (by simp)) d (by simpa using h)
  intro c hc
  unfold reprText at hc
  rw [Array.toList_push, ← Array.foldl_toList] at hc
  rcases List.mem_append.mp hc with h | h
  · exact fold x.cps.toList #[reprQuote x] hx (by simpa using hq) c h
  · have : c = reprQuote x := by simpa using h
    omega
mutual
/-- every text in it is well made -/
theorem okC_shown {K : PySem.W.Frag} : ∀ (n : Nat) (d : D) (v : V), repOk n d = true → RV K L ω d v → okC (pd d).shown
  | _, .non, _, _, _ => okC_of _
  | _, .bl b, _, _, _ => by
    cases b
    · exact okC_of _
    · exact okC_of _
  | _, .int i, _, _, _ => okC_of _
  | _, .str x, _, _, ⟨_, h⟩ => okC_rep ((okC_iff _).mp h.1)
  | n + 1, .tup ds, _, hf, ⟨a, vs, _, _, h⟩ => by
    have q := okC_shownAll n ds vs (by simpa [repOk] using hf) h
    show okC (tupleText _)
    unfold tupleText
    exact okC_app (okC_app (okC_of _) (okC_join (okC_of _) q)) (okC_of _)
  | n + 1, .lst ds, _, hf, ⟨a, vs, _, _, h⟩ => by
    have q := okC_shownAll n ds vs (by simpa [repOk] using hf) h
    show okC (listText _)
    unfold listText
    exact okC_app (okC_text (okC_of _) q) (okC_of _)
  | n + 1, .dct kvs, _, hf, ⟨a, ws, _, _, h⟩ => by
    have q := okC_shownKv n kvs ws (by simpa [repOk] using hf) h
    show okC (dictText _)
    unfold dictText
    exact okC_app (okC_app (okC_of _) (okC_join (okC_of _) q)) (okC_of _)
  | 0, .tup _, _, hf, _ => by simp [repOk] at hf
  | 0, .lst _, _, hf, _ => by simp [repOk] at hf
  | 0, .dct _, _, hf, _ => by simp [repOk] at hf
  | n, .lck _, _, hf, _ => by cases n <;> simp [repOk] at hf
  | n, .kdc _, _, hf, _ => by cases n <;> simp [repOk] at hf
  | n, .ty _, _, hf, _ => by cases n <;> simp [repOk] at hf
  | n, .glo _, _, hf, _ => by cases n <;> simp [repOk] at hf
  | n, .ref _, _, hf, _ => by cases n <;> simp [repOk] at hf
  | n, .xcp _ _, _, hf, _ => by cases n <;> simp [repOk] at hf
theorem okC_shownAll {K : PySem.W.Frag} : ∀ (n : Nat) (ds : List D) (vs : List V), repOks n ds = true → RVs K L ω ds vs → ∀ t ∈ PyData.shownAll (pds ds), okC t
  | _, [], _, _, _ => fun _ z => nomatch z
  | n, d :: ds, _, hf, ⟨v, r, _, h2, h3⟩ => by
    have hf' : repOk n d = true ∧ repOks n ds = true := by simpa [repOks] using hf
    intro t ht
    simp only [pds, PyData.shownAll, List.mem_cons] at ht
    rcases ht with rfl | ht
    · exact okC_shown n d v hf'.1 h2
    · exact okC_shownAll n ds r hf'.2 h3 t ht
theorem okC_shownKv {K : PySem.W.Frag} : ∀ (n : Nat) (kvs : List (D × D)) (ws : List (Key × V)), repOkv n kvs = true → RVk K L ω kvs ws → ∀ t ∈ PyData.shownKv (pkv kvs), okC t
  | _, [], _, _, _ => fun _ z => nomatch z
  | n, (a, b) :: kvs, _, hf, ⟨k, v, r, _, h2, h3, h4⟩ => by
    have hf' : ((scalD a = true ∧ repOk n a = true) ∧ repOk n b = true) ∧ repOkv n kvs = true := by simpa [repOkv] using hf
    intro t ht
    simp only [pkv, PyData.shownKv, List.mem_cons] at ht
    rcases ht with rfl | ht
    · refine okC_app (okC_app ?_ (okC_of _)) (okC_shown n b v hf'.1.2 h3)
      cases a <;> simp [keyOf] at h2
      · exact okC_of _
      · exact okC_rep ((okC_iff _).mp (h2.2 _ rfl).1)
    · exact okC_shownKv n kvs r hf'.2 h4 t ht
end
theorem c_rep (hsys : SysD X.K) (gu : X.A.guards = some []) (hu : X.A.units + 65 < cLine) : CallB X L .rep := by
  intro pins s σ H xs us Q I rx h
  obtain ⟨ω, ds, d, rfl, r, rs, h0, k⟩ := h
  have ho : biOp ω.S .rep ds = some d := h0
  clear h0
  unfold biOp at ho
  split at ho <;> try (first | contradiction | (cases ho; done))
  rename_i a h1
  obtain ⟨v, rfl, rv⟩ := rvs1 rs
  obtain ⟨u, rfl, ru⟩ := vals1 rx
  unfold repOp at ho
  split at ho
  · rename_i hc
    simp only [Bool.and_eq_true, decide_eq_true_eq] at hc
    obtain ⟨hc1, hc2⟩ := hc
    cases ho
    -- what is read
    have key : ∃ as, Reads s.heap u (pd (vw ω.S a)) as ∧ sysModules ∉ as ∧ (pd (vw ω.S a)).showable = true ∧ (pd (vw ω.S a)).depth ≤ 60 ∧ okC (pd (vw ω.S a)).shown := by
      rcases vw_same r rv with ⟨n, es, vs, rfl, e, rfl, hH, rs2, hv⟩ | hv
      · rw [hv] at hc1 ⊢
        cases ru
        obtain ⟨its, rvs, ⟨o, m, ho, hcl, _, hd⟩, _⟩ := I.list (SqL.of hH)
        have hc1' : repOks 59 es = true := hc1
        obtain ⟨as, q1, q2, q3, q4⟩ := rep_Rs hsys I 59 es vs its hc1' rs2 rvs
        refine ⟨_, .list ho hcl hd q1, ?_, q3, by simp only [pd, PyData.depth]; omega, ?_⟩
        · simp only [List.mem_cons, not_or]
          exact ⟨fun z => not_sys hsys I ho hcl z.symm, q2⟩
        · have q := okC_shownAll 59 es vs hc1' rs2
          show okC (listText _)
          unfold listText
          exact okC_app (okC_text (okC_of _) q) (okC_of _)
      · rw [hv] at hc1 ⊢
        obtain ⟨as, q1, q2, q3, q4⟩ := rep_R hsys I 60 a v u hc1 rv ru
        exact ⟨as, q1, q2, q3, q4, okC_shown 60 a v hc1 rv⟩
    obtain ⟨as, q1, q2, q3, q4, q5⟩ := key
    have hlen : (pd (vw ω.S a)).shown.length ≤ sizeLine := by
      rw [← lim_line]
      have : (shw (vw ω.S a)).length = (pd (vw ω.S a)).shown.length := by simp [shw, Str.length]
      omega
    have fin : Q (.str (pd (vw ω.S a)).shown) ω.H := by
      have e : toStr (shw (vw ω.S a)) = (pd (vw ω.S a)).shown := toStr_list _
      refine k ω _ (Ev.refl ω) r rfl ⟨by rw [e], ?_, hc2⟩
      rw [e]
      exact (okC_iff _).mpr q5
    generalize pd (vw ω.S a) = p at *
    cases q1 with
    | none => exact P.repr_of_none ⟨.str _, ω.H, I.tok _, ⟨_, rfl⟩, fin⟩
    | bool b => exact P.repr_of_bool ⟨.str _, ω.H, I.tok _, ⟨_, rfl⟩, fin⟩
    | int i t => exact P.repr_of_int (by simpa [PyData.showable] using q3) ⟨.str _, ω.H, I.tok _, ⟨_, rfl⟩, fin⟩
    | str x t => exact P.repr_of_str ⟨.str _, ω.H, I.tok _, ⟨_, rfl⟩, fin⟩ hlen
    | list e1 e2 e3 e4 => exact repr_of_reads' (.list e1 e2 e3 e4) q3 (fun _ => q2) gu (by omega) (fun _ _ z => z) (fun h' t tk hk => ⟨.str _, ω.H, I.kept hk, ⟨_, rfl⟩, fin⟩) hlen
    | tuple e1 e2 e3 e4 => exact repr_of_reads' (.tuple e1 e2 e3 e4) q3 (fun _ => q2) gu (by omega) (fun _ _ z => z) (fun h' t tk hk => ⟨.str _, ω.H, I.kept hk, ⟨_, rfl⟩, fin⟩) hlen
    | dict e1 e2 e3 e4 e5 => exact repr_of_reads' (.dict e1 e2 e3 e4 e5) q3 (fun _ => q2) gu (by omega) (fun _ _ z => z) (fun h' t tk hk => ⟨.str _, ω.H, I.kept hk, ⟨_, rfl⟩, fin⟩) hlen
  · cases ho
end
end Mi
end
section
set_option Elab.async false
set_option linter.all false
set_option maxRecDepth 100000
set_option maxHeartbeats 4000000
/-! isinstance; methods of built-in types; calls of defs. -/
namespace Mi
open PySem PySem.Spec PyProof.Rows L2
section
variable {C : Cn} {L : Lnk} {X : Cx} {ω : Wd} {W : WX}
theorem btOk_cases {n : String} (h : btOk n = true) : n = "int" ∨ n = "str" ∨ n = "bool" ∨ n = "list" ∨ n = "tuple" ∨ n = "dict" := by
  simp only [btOk, Bool.or_eq_true, beq_iff_eq] at h
  rcases h with ((((h | h) | h) | h) | h) | h
  · exact .inl h
  · exact .inr (.inl h)
  · exact .inr (.inr (.inl h))
  · exact .inr (.inr (.inr (.inl h)))
  · exact .inr (.inr (.inr (.inr (.inl h))))
  · exact .inr (.inr (.inr (.inr (.inr h))))
/-- the name of a value's built-in type -/
def tyN (S : Mi.St) : D → Option String
  | .non => some "NoneType" | .bl _ => some "bool" | .int _ => some "int" | .str _ => some "str" | .tup _ => some "tuple" | .lst _ => some "list" | .lck _ => some "list" | .dct _ => some "dict" | .kdc _ => some "dict"
  | .ref k => (match S[k]? with
    | some (some (.lst _)) => some "list"
    | some (some (.dct _ _)) => some "dict"
    | _ => none)
  | _ => none
theorem tyN_R {K : PySem.W.Frag} (r : Rel K L ω) {d : D} {v : V} {n : String} (h : tyN ω.S d = some n) (rv : RV K L ω d v) : TyX K ω.H v (.type n) := by
  cases d with
  | non => cases h; cases rv; exact .base .non
  | bl b => cases h; cases rv; exact .base (.bl b)
  | int i => cases h; cases rv; exact .base (.int i)
  | str x => cases h; obtain ⟨rfl, _⟩ := rv; exact .base (.str _)
  | ty n => cases h
  | glo g => cases h
  | xcp c fs => cases h
  | tup ds =>
    cases h
    obtain ⟨a, vs, rfl, ht, _⟩ := rv
    rcases ht with ht | (ht | ⟨o, ht⟩) | ⟨o, its, m, hk, hc, _⟩
    · exact .base (.tup ht)
    · cases ht
    · cases ht
    · exact .kTuple hk hc
  | lst ds =>
    cases h
    obtain ⟨a, vs, rfl, ht, _⟩ := rv
    exact .base (.lst ht.1)
  | lck ds =>
    cases h
    obtain ⟨a, vs, rfl, ht, _⟩ := rv
    rcases ht with ⟨o, ht⟩ | (ht | ⟨o, ht⟩) | ⟨o, its, m, hk, hc, _⟩
    · exact .base (.frz ht)
    · cases ht
    · cases ht
    · exact .kList hk hc
  | dct kvs =>
    cases h
    obtain ⟨a, ws, rfl, ht, _⟩ := rv
    rcases ht.1 with ht | ⟨o, ht⟩
    · exact .base (.dK ht)
    · exact .fDict ht
  | kdc kvs =>
    cases h
    obtain ⟨a, es, m, rfl, D, _⟩ := rv
    exact .kDict D.at_ rfl
  | ref k =>
    simp only [tyN] at h
    split at h
    · rename_i e
      cases h
      obtain ⟨vs, h1, _⟩ := r.live _ _ e
      rw [rv.2]
      exact .base (.lst h1)
    · rename_i e
      cases h
      obtain ⟨ws, h1, _⟩ := dlive_R r e
      rw [rv.2]
      rcases h1 with h1 | ⟨o, h1⟩
      · exact .base (.dK h1)
      · exact .fDict h1
    · cases h
/-- what isinstance answers of a built-in class -/
def isB (t n : String) : Bool := t == n || (t == "bool" && n == "int")
theorem isT_bt {P : Pg} {S : Mi.St} {d : D} {n : String} {b : Bool} (h : isT P S d (.bt n) = some b) : btOk n = true ∧ ∃ t, tyN S d = some t ∧ b = isB t n := by
  simp only [isT] at h
  split at h
  · rename_i hb
    refine ⟨hb, ?_⟩
    rcases btOk_cases hb with rfl | rfl | rfl | rfl | rfl | rfl
    all_goals
      cases d <;> simp only [tyN] at h ⊢ <;> first
        | (cases h; done)
        | (refine ⟨_, rfl, ?_⟩; cases h; rfl)
        | (split at h <;> first
            | (cases h; done)
            | (rename_i e; (try rw [e]); refine ⟨_, rfl, ?_⟩; cases h; rfl))
  · cases h
theorem kit_isB {t n : String} (ht : t = "NoneType" ∨ t = "bool" ∨ t = "int" ∨ t = "str" ∨ t = "tuple" ∨ t = "list" ∨ t = "dict") (hn : btOk n = true) : kitB t n = some (isB t n) := by
  rcases btOk_cases hn with rfl | rfl | rfl | rfl | rfl | rfl <;> rcases ht with rfl | rfl | rfl | rfl | rfl | rfl | rfl <;> decide +kernel
theorem tyN_mem {S : Mi.St} {d : D} {t : String} (h : tyN S d = some t) : t = "NoneType" ∨ t = "bool" ∨ t = "int" ∨ t = "str" ∨ t = "tuple" ∨ t = "list" ∨ t = "dict" := by
  cases d <;> simp only [tyN] at h <;> first
    | (cases h; done)
    | (cases h; simp; done)
    | (split at h <;> first
        | (cases h; done)
        | (cases h; simp))
theorem isi_R {P : Pg} (r : Rel X.K L ω) {d : D} {v : V} {n : String} {b : Bool} (h : isT P ω.S d (.bt n) = some b) (rv : RV X.K L ω d v) : ∃ t, TyX X.K ω.H v (.type t) ∧ PySem.W.kitOne X.K (.type t) (.type n) = some b := by
  obtain ⟨hb, t, h1, rfl⟩ := isT_bt h
  exact ⟨t, tyN_R r h1 rv, kit_ty (kit_isB (tyN_mem h1) hb)⟩
end
end Mi
end
section
set_option Elab.async false
set_option linter.all false
set_option maxRecDepth 100000
set_option maxHeartbeats 4000000
/-! What is walked: lists, tuples, texts; enumerate and zip over any of them. -/
namespace Mi
open PySem PySem.Spec PyProof.Rows L2
/-- a source: a list, a tuple, a text -/
inductive Sr where | lst (a : Addr) | tup (a : Addr) | str (x : Str)
def sgs (x : Str) : List V := x.cps.toList.map fun c => V.str ⟨#[c]⟩
def Sr.has (K : PySem.W.Frag) (H : Hp) : Sr → List V → Prop
  | .lst a, xs => SqL K H a xs
  | .tup a, xs => SqT K H a xs
  | .str x, xs => xs = sgs x
def Sr.val : Sr → V
  | .lst a | .tup a => .ref a
  | .str x => .str x
def Sr.far (b : Addr) : Sr → Prop
  | .lst a | .tup a => a ≠ b
  | .str _ => True
def Sr.at (it : Addr) (i : Nat) (h : Heap) : Sr → Prop
  | .lst a => h.IsListIter it a i
  | .tup a => h.IsTupleIter it a i
  | .str x => ∃ t, h.IsStrIter it (strIterType x) x t i
section
variable {X : Cx} {pins : List (Addr × Obj)} {σ : L2.St} {H : Hp} {s : Shared} {S : Sr} {it : Addr} {i : Nat}
theorem Sr.at_obj {h : Heap} (st : S.at it i h) : ∃ o, h.get? it = some o ∧ ∀ v, o.data ≠ .cell v := by
  cases S with
  | lst a => obtain ⟨o, e, _, d⟩ := st; exact ⟨o, e, fun v z => by rw [d] at z; cases z⟩
  | tup a => obtain ⟨o, e, _, d⟩ := st; exact ⟨o, e, fun v z => by rw [d] at z; cases z⟩
  | str x => obtain ⟨t, o, e, _, d⟩ := st; exact ⟨o, e, fun v z => by rw [d] at z; cases z⟩
theorem Sr.at_keep {h h' : Heap} (k : ∀ o, h.get? it = some o → h'.get? it = some o) (st : S.at it i h) : S.at it i h' := by
  cases S with
  | lst a => obtain ⟨o, e, r⟩ := st; exact ⟨o, k o e, r⟩
  | tup a => obtain ⟨o, e, r⟩ := st; exact ⟨o, k o e, r⟩
  | str x => obtain ⟨t, o, e, r⟩ := st; exact ⟨t, o, k o e, r⟩
theorem Sr.inj (I : Inv X pins σ H s) {xs ys : List V} (h : S.has X.K H xs) (q : S.has X.K H ys) : xs = ys := by
  cases S with
  | lst a => exact I.list_inj h q
  | tup a => exact I.tuple_inj h q
  | str x => exact h.trans q.symm
/-- what its iterator draws, as things stand -/
theorem Sr.draws (I : Inv X pins σ H s) {xs : List V} (ok : S.has X.K H xs) (far : S.far it) (st : S.at it i s.heap) {A : Around} (hh : A.handled = none) :
    ∃ fp n Pd St, Draws X.prog X.w A it fp n Pd St ∧ n = xs.length ∧ St i s.heap ∧ (∀ j h, St j h → S.at it j h) ∧ it ∈ fp ∧ (∀ b, S.far b → b ≠ it → b ∉ fp) ∧ ∀ j v, Pd j v → ∃ x, xs[j]? = some x ∧ RelV x v := by
  have back : ∀ {its : List Value}, Vals xs its → ∀ (j : Nat) (v : Value), its.toArray[j]? = some v → ∃ x, xs[j]? = some x ∧ RelV x v := fun {its} rv j v e => by
    cases q : xs[j]? with
    | none =>
      have z := rv.none_of q
      rw [List.getElem?_toArray, z] at e
      cases e
    | some x =>
      obtain ⟨u, h1, h2⟩ := rv.get q
      rw [List.getElem?_toArray, h1] at e
      cases e
      exact ⟨x, rfl, h2⟩
  cases S with
  | lst a =>
    obtain ⟨its, rv, p, _⟩ := I.list ok
    refine ⟨_, _, _, _, Draws.list hh it a far its.toArray, by rw [List.size_toArray, rv.length], ⟨st, p.isList⟩, fun j h q => q.1, by simp, fun b hb hne => ?_, back rv⟩
    have hb : a ≠ b := hb
    simp [hne, Ne.symm hb]
  | tup a =>
    obtain ⟨its, rv, p, _⟩ := I.tuple ok
    refine ⟨_, _, _, _, Draws.tuple hh it a far its.toArray, by rw [List.size_toArray, rv.length], ⟨st, (show s.heap.IsTuple a its.toArray from p)⟩, fun j h q => q.1, by simp, fun b hb hne => ?_, back rv⟩
    have hb : a ≠ b := hb
    simp [hne, Ne.symm hb]
  | str x =>
    have ok : xs = sgs x := ok
    subst ok
    obtain ⟨t, st⟩ := st
    refine ⟨_, _, _, _, Draws.text hh it x t, by simp [sgs], st, fun j h q => ⟨t, q⟩, by simp, fun b hb hne => by simp [hne], fun j v ⟨c, u, h1, h2⟩ => ⟨.str ⟨#[c]⟩, ?_, u, h2⟩⟩
    simp [sgs, h1]
theorem Sr.begins (I : Inv X pins σ H s) {xs : List V} (ok : S.has X.K H xs) {u : Value} (r : RelV S.val u) : ∃ o Hh, Begins u o Hh ∧ Hh s.heap ∧ (∀ h b, h.get? b = some o → S.at b 0 h) ∧ ∀ b, s.heap.objs.size ≤ b → S.far b := by
  cases S with
  | lst a =>
    cases r
    obtain ⟨its, rv, p, _⟩ := I.list ok
    exact ⟨_, _, begins_list a its.toArray, p.isList, fun h b e => ⟨_, e, rfl, rfl⟩, fun b hb => Nat.ne_of_lt (Nat.lt_of_lt_of_le p.lt hb)⟩
  | tup a =>
    cases r
    obtain ⟨its, rv, p, _⟩ := I.tuple ok
    exact ⟨_, _, begins_tuple a its.toArray, (show s.heap.IsTuple a its.toArray from p), fun h b e => ⟨_, e, rfl, rfl⟩, fun b hb => Nat.ne_of_lt (Nat.lt_of_lt_of_le p.lt hb)⟩
  | str x =>
    obtain ⟨t, rfl⟩ := r
    exact ⟨_, _, begins_text x t, trivial, fun h b e => ⟨t, _, e, rfl, rfl⟩, fun _ _ => trivial⟩
end
/-- enumerate over a source -/
def ItE (K : PySem.W.Frag) (S : Sr) : It :=
  ⟨fun i H => ∃ xs x, S.has K H xs ∧ xs[i]? = some x, fun i H v H' => ∃ T x, v = .ref T ∧ H T = none ∧ H' = upd H T (.tup [.int (i : Nat), x]) ∧ ∀ xs, S.has K H xs → xs[i]? = some x, fun i H => ∃ xs, S.has K H xs ∧ xs.length = i⟩
theorem turn_enumS {P : Program} {w : World} {K : PySem.W.Frag} {elts : List Expr} {kk : Nat} {tpos : Pos} {S : Sr} {c it : Addr} (hci : c ≠ it) (fc : S.far c) (fi : S.far it) :
    Turn P w K (.Tuple elts kk tpos) (ItE K S) [c, it] c (fun i h => (∃ old, IsEnum h c it (i : Int) old) ∧ S.at it i h) where
  mem := List.mem_cons_self
  obj := fun i h st b hb => by
    obtain ⟨⟨old, he⟩, hi⟩ := st
    rcases List.mem_cons.mp hb with rfl | hb
    · exact ⟨_, he, fun v q => nomatch q⟩
    · rw [List.mem_singleton.mp hb]; exact Sr.at_obj hi
  keep := fun i h h' st k => ⟨st.1.imp fun _ he => k c List.mem_cons_self _ he, Sr.at_keep (fun o q => k it (List.mem_cons_of_mem _ List.mem_cons_self) o q) st.2⟩
  item := by
    intro X hP hw hK hc i pins s σ H E I hf st ⟨xs, x, ok, hx⟩
    subst hP hw hK
    obtain ⟨fp, n, Pd, St, D, hn, st0, back, hm, hfar, rel⟩ := Sr.draws I ok fi st.2 (A := X.A.in1) (I.ok.hd hc)
    have W := WalksT.enumerateD D c hci (hfar c fc hci) hm
    have hlt : i < n := by rw [hn]; exact (List.getElem?_eq_some_iff.mp hx).1
    refine W.item i s _ _ hlt ⟨st.1, st0⟩ fun T vals h1 tk hP hT hIs hMid k1 => ⟨_, rfl, W.go elts kk tpos i T { s with heap := h1, toks := tk } _ _ hMid fun h2 st2 k2 => ?_⟩
    obtain ⟨t, y, hy, rfl⟩ := hP
    obtain ⟨z, hz, rz⟩ := rel i y hy
    have hT2 : h2.IsTuple T #[.int (i : Int) t, y] := hIs.at fun o q => k2 T o (W.apart i T h1 hMid) q
    have new : ObjOk X.prog X.w (upd H T (.tup [.int (i : Nat), z])) h2 T (.tup [.int (i : Nat), z]) := ⟨(by decide : 2 ≤ sizeLine), [_, _], Paired.cons ⟨t, rfl⟩ (Paired.cons rz Paired.nil), hT2⟩
    refine ⟨.ref T, _, I.turnedNew (t' := tk) (ch := [c, it]) (fun b o hb q => k2 b o hb (k1 b o hb q)) hf hT new, rfl, ⟨T, z, rfl, I.hok.fresh hT, rfl, fun ys hys => by rw [Sr.inj I hys ok]; exact hz⟩, ⟨by simpa using st2.1, back _ _ st2.2⟩, fun b hb => ?_⟩
    rw [upd_ne fun (q : b = T) => W.apart i T h1 hMid (q ▸ hb)]
    exact (hf b hb).1
  done := by
    intro X hP hw hK hc i pins s σ H E I hf st ⟨xs, ok, hx⟩
    subst hP hw hK
    obtain ⟨fp, n, Pd, St, D, hn, st0, back, hm, hfar, rel⟩ := Sr.draws I ok fi st.2 (A := X.A.in1) (I.ok.hd hc)
    have W := WalksT.enumerateD D c hci (hfar c fc hci) hm
    have hni : i = n := by rw [hn, hx]
    subst hni
    exact W.done s _ _ ⟨st.1, st0⟩ fun h1 tk k1 => ⟨rfl, I.turnedL (t' := tk) (ch := [c, it]) k1 hf⟩
  self := fun A i s Q E st h => by
    obtain ⟨⟨old, he⟩, _⟩ := st
    exact wpAny_pyIter_enum he h
/-- zip over two -/
def ItZ (K : PySem.W.Frag) (S U : Sr) : It :=
  ⟨fun i H => ∃ xs ys x y, S.has K H xs ∧ U.has K H ys ∧ xs[i]? = some x ∧ ys[i]? = some y,
    fun i H v H' => ∃ T x y, v = .ref T ∧ H T = none ∧ H' = upd H T (.tup [x, y]) ∧ (∀ xs, S.has K H xs → xs[i]? = some x) ∧ ∀ ys, U.has K H ys → ys[i]? = some y,
    fun i H => ∃ xs ys, S.has K H xs ∧ U.has K H ys ∧ min xs.length ys.length = i⟩
/-- the five cells of a zip -/
structure ZFar (S U : Sr) (z TI TO i1 i2 : Addr) : Prop where
  fz : S.far z
  fT : S.far TO
  f1 : S.far i1
  f2 : S.far i2
  gz : U.far z
  gT : U.far TO
  g1 : U.far i1
  g2 : U.far i2
  TIz : TI ≠ z
  TOz : TO ≠ z
  TITO : TI ≠ TO
  TI1 : TI ≠ i1
  TI2 : TI ≠ i2
  z1 : z ≠ i1
  z2 : z ≠ i2
  TO1 : TO ≠ i1
  TO2 : TO ≠ i2
  ne : i1 ≠ i2
theorem turn_zipS {P : Program} {w : World} {K : PySem.W.Frag} {elts : List Expr} {kk : Nat} {tpos : Pos} {S U : Sr} {z TI TO i1 i2 : Addr} (D : ZFar S U z TI TO i1 i2) :
    Turn P w K (.Tuple elts kk tpos) (ItZ K S U) [z, TI, TO, i1, i2] z (fun i h => IsZip h z TI TO .none ∧ IsTupOf2 h TI (.ref i1) (.ref i2) ∧ (∃ a1 a2, IsTupOf2 h TO a1 a2) ∧ S.at i1 i h ∧ U.at i2 i h) where
  mem := List.mem_cons_self
  obj := fun i h st b hb => by
    obtain ⟨hz, hI, ⟨a1, a2, hO⟩, h1, h2⟩ := st
    simp only [List.mem_cons, List.not_mem_nil, or_false] at hb
    rcases hb with rfl | rfl | rfl | rfl | rfl
    · exact ⟨_, hz, fun v q => nomatch q⟩
    · exact ⟨_, hI, fun v q => nomatch q⟩
    · exact ⟨_, hO, fun v q => nomatch q⟩
    · exact Sr.at_obj h1
    · exact Sr.at_obj h2
  keep := fun i h h' st k => by
    obtain ⟨hz, hI, ⟨a1, a2, hO⟩, h1, h2⟩ := st
    exact ⟨k z (by simp) _ hz, k TI (by simp) _ hI, ⟨a1, a2, k TO (by simp) _ hO⟩, Sr.at_keep (fun o q => k i1 (by simp) o q) h1, Sr.at_keep (fun o q => k i2 (by simp) o q) h2⟩
  item := by
    intro X hP hw hK hc i pins s σ H E I hf st ⟨xs, ys, x, y, ok1, ok2, hx, hy⟩
    subst hP hw hK
    obtain ⟨hz, hI, hO, h1, h2⟩ := st
    obtain ⟨fp1, n1, P1, St1, D1, hn1, st1, back1, hm1, far1, rel1⟩ := Sr.draws I ok1 D.f1 h1 (A := X.A.in1) (I.ok.hd hc)
    obtain ⟨fp2, n2, P2, St2, D2, hn2, st2, back2, hm2, far2, rel2⟩ := Sr.draws I ok2 D.g2 h2 (A := X.A.in1) (I.ok.hd hc)
    have W := WalksT.zipD2 ⟨D.TIz, D.TOz, D.TITO, D.TI1, hm1, far1 z D.fz D.z1, far1 TO D.fT D.TO1, D.TI2, hm2, far2 z D.gz D.z2, far2 TO D.gT D.TO2, far2 i1 D.g1 D.ne, far1 i2 D.f2 (Ne.symm D.ne)⟩ D1 D2
    have l1 := (List.getElem?_eq_some_iff.mp hx).1
    have l2 := (List.getElem?_eq_some_iff.mp hy).1
    refine W.item i s _ _ (by omega) ⟨hz, hI, hO, st1, st2⟩ fun T vals g1 tk hP hT hIs hMid k1 => ⟨_, rfl, W.go elts kk tpos i T { s with heap := g1, toks := tk } _ _ hMid fun g2 q2 k2 => ?_⟩
    obtain ⟨u1, u2, hu1, hu2, rfl⟩ := hP
    obtain ⟨v1, hv1, r1⟩ := rel1 i u1 hu1
    obtain ⟨v2, hv2, r2⟩ := rel2 i u2 hu2
    have hT2 : g2.IsTuple T #[u1, u2] := hIs.at fun o q => k2 T o (W.apart i T g1 hMid) q
    have new : ObjOk X.prog X.w (upd H T (.tup [v1, v2])) g2 T (.tup [v1, v2]) := ⟨(by decide : 2 ≤ sizeLine), [_, _], Paired.cons r1 (Paired.cons r2 Paired.nil), hT2⟩
    refine ⟨.ref T, _, I.turnedNew (t' := tk) (ch := [z, TI, TO, i1, i2]) (fun b o hb q => k2 b o (fun e => hb ?_) (k1 b o (fun e => hb ?_) q)) hf hT new, rfl,
      ⟨T, v1, v2, rfl, I.hok.fresh hT, rfl, fun l hl => by rw [Sr.inj I hl ok1]; exact hv1, fun l hl => by rw [Sr.inj I hl ok2]; exact hv2⟩, ⟨q2.1, q2.2.1, q2.2.2.1, back1 _ _ q2.2.2.2.1, back2 _ _ q2.2.2.2.2⟩, fun b hb => ?_⟩
    · simp only [List.mem_cons, List.not_mem_nil, or_false] at e ⊢; rcases e with e | e | e | e <;> simp [e]
    · simp only [List.mem_cons, List.not_mem_nil, or_false] at e ⊢; rcases e with e | e | e | e <;> simp [e]
    · obtain ⟨a1, a2, hO⟩ := hO
      have hbl : b < s.heap.objs.size := by
        simp only [List.mem_cons, List.not_mem_nil, or_false] at hb
        rcases hb with rfl | rfl | rfl | rfl | rfl
        · exact Heap.lt_size hz
        · exact Heap.lt_size hI
        · exact Heap.lt_size hO
        · obtain ⟨_, q, _⟩ := Sr.at_obj h1; exact Heap.lt_size q
        · obtain ⟨_, q, _⟩ := Sr.at_obj h2; exact Heap.lt_size q
      rw [upd_ne (Nat.ne_of_lt (Nat.lt_of_lt_of_le hbl hT))]
      exact (hf b hb).1
  done := by
    intro X hP hw hK hc i pins s σ H E I hf st ⟨xs, ys, ok1, ok2, hx⟩
    subst hP hw hK
    obtain ⟨hz, hI, hO, h1, h2⟩ := st
    obtain ⟨fp1, n1, P1, St1, D1, hn1, st1, back1, hm1, far1, rel1⟩ := Sr.draws I ok1 D.f1 h1 (A := X.A.in1) (I.ok.hd hc)
    obtain ⟨fp2, n2, P2, St2, D2, hn2, st2, back2, hm2, far2, rel2⟩ := Sr.draws I ok2 D.g2 h2 (A := X.A.in1) (I.ok.hd hc)
    have W := WalksT.zipD2 ⟨D.TIz, D.TOz, D.TITO, D.TI1, hm1, far1 z D.fz D.z1, far1 TO D.fT D.TO1, D.TI2, hm2, far2 z D.gz D.z2, far2 TO D.gT D.TO2, far2 i1 D.g1 D.ne, far1 i2 D.f2 (Ne.symm D.ne)⟩ D1 D2
    have hni : i = min n1 n2 := by rw [hn1, hn2, hx]
    subst hni
    refine W.done s _ _ ⟨hz, hI, hO, st1, st2⟩ fun g1 tk k1 => ⟨rfl, I.turnedL (t' := tk) (ch := [z, TI, TO, i1, i2]) (fun b o hb q => k1 b o (fun e => hb ?_) q) hf⟩
    simp only [List.mem_cons, List.not_mem_nil, or_false] at e ⊢; rcases e with e | e | e | e <;> simp [e]
  self := fun A i s Q E st h => wpAny_pyIter_zip st.1 h
/-! ### the walks begin -/
set_option maxHeartbeats 1000000 in
theorem enum_made {v : Value} {o : Obj} {H : Heap → Prop} (B : Begins v o H) :
    Meets (Builtin.«enumerate.__new__» ⟨[.type "enumerate", v], []⟩) (fun _ R s => H s.heap ∧
      R (.ok (.ret (.ref (s.heap.push o).objs.size))) { s with heap := (s.heap.push o).push { cls := .type "enumerate", data := .fields #[.none, .bool false, .ref s.heap.objs.size, rawInt 0, .none, .none] } }) :=
  .of_wp fun prog w A R s q => by
    obtain ⟨hp, gg, dd, tk, os⟩ := s
    obtain ⟨q1, q2⟩ := q
    have hsub := sub_enumerate
    have step : ∀ {A' : Around} {E : Value → Shared → Prop} {Q : Value → Shared → Prop}, Q (.ref hp.objs.size) ⟨hp.push o, gg, dd, tk, os⟩ → wpAny (model prog w) A' (pyIter v) Q E ⟨hp, gg, dd, tk, os⟩ := fun z => B.iter prog w _ _ ⟨hp, gg, dd, tk, os⟩ _ q1 z
    wp_walk using step
    refine wpAny_stack_any fun _ => wpAny_pure ?_
    split
    · rename_i c _ _ _ _ _
      cases (c == Value.type "enumerate")
      · wp_walk using step
        exact ⟨_, rfl, q2⟩
      · wp_walk using step
        exact ⟨_, rfl, q2⟩
    · wp_walk using step
      exact ⟨_, rfl, q2⟩
section
variable {X : Cx} {tg e e2 : Expr}
/-- over any source -/
def Sr.it (K : PySem.W.Frag) : Sr → It
  | .lst a => Itl K a
  | .tup a => Itt K a
  | .str x => Its x
def iSr (K : PySem.W.Frag) (te : TE) : TI := fun σ H R => te σ H fun v H1 => ∃ S : Sr, v = S.val ∧ (∃ xs, S.has K H1 xs) ∧ R (S.it K) H1
theorem pi_sr {te : TE} (he : PE X e te) : PI X tg e (iSr X.K te) := by
  refine ⟨fun pins s σ H R I h => thn (he.run pins s σ H _ I h) fun v s1 ⟨y, H1, I1, r1, S, ey, ⟨xs, ok⟩, q⟩ => ?_⟩
  subst ey
  cases S with
  | lst a =>
    cases r1
    obtain ⟨its, _, p, _⟩ := I1.list ok
    exact wpAny_pyIter_list p.isList (pi_one (tk := s1.toks) I1 _ (turn_list a _) ⟨_, Heap.get?_push_size _ rfl, rfl, rfl⟩ q)
  | tup a =>
    cases r1
    obtain ⟨its, _, p, _⟩ := I1.tuple ok
    exact wpAny_pyIter_tuple (show s1.heap.IsTuple a its.toArray from p) (pi_one (tk := s1.toks) I1 _ (turn_tuple a _) ⟨_, Heap.get?_push_size _ rfl, rfl, rfl⟩ q)
  | str x =>
    obtain ⟨t, rfl⟩ := r1
    refine wpAny_pyIter_strU (pi_one (tk := s1.toks) I1 _ (turn_str _ x t (strIterType x) ?_) ⟨_, Heap.get?_push_size _ rfl, rfl, rfl⟩ q)
    unfold strIterType
    split
    · exact .inl rfl
    · exact .inr rfl
def iEnS (K : PySem.W.Frag) (ta : TA) : TI := fun σ H R => ta σ H fun vs H1 => ∃ S : Sr, vs = [S.val] ∧ (∃ xs, S.has K H1 xs) ∧ R (ItE K S) H1
theorem pi_enumS {ta : TA} {p pos tpos : Pos} {elts : List Expr} {kk : Nat} (hg : Gl X "enumerate") (hm : X.mg "enumerate" = none) (ha : PA X [e] ta) (hs : starEach [e] X.env = [(false, eval e X.env)]) :
    PI X (.Tuple elts kk tpos) (.Call (.Name "enumerate" p) [e] [] pos) (iEnS X.K ta) := by
  refine ⟨fun pins s σ H R I h => Call_ (ld_blt I hg hm boot_enumerate (PyProof.Rows.callWith_type1 (thn (ha.run pos pins s σ H _ I h) fun us s1 ⟨vs, H1, I1, r1, S, ex, ⟨xs, ok⟩, q⟩ => ?_) hs rfl))⟩
  subst ex
  cases r1 with
  | cons r rr =>
    cases rr
    obtain ⟨o, Hh, B, h1, h2, h3⟩ := Sr.begins I1 ok r
    have hz : (s1.heap.push o).objs.size = s1.heap.objs.size + 1 := Heap.size_push ..
    refine callType_new F.called_enumerate (by decide) (F.typeCall_enumerate_1 _) (F.newCall_enumerate_1 _) (fun obj => F.args_object_init_2 obj _) F.entry_enumerate_new (enum_made B) ⟨h1, ?_⟩
    show _ ∧ _
    rw [hz]
    have he : IsEnum ((s1.heap.push o).push { cls := .type "enumerate", data := .fields #[.none, .bool false, .ref s1.heap.objs.size, rawInt 0, .none, .none] }) (s1.heap.objs.size + 1) s1.heap.objs.size 0 .none := by
      have z := Heap.get?_push_size (s1.heap.push o) (o := { cls := .type "enumerate", data := .fields #[.none, .bool false, .ref s1.heap.objs.size, rawInt 0, .none, .none] }) rfl
      rwa [hz] at z
    refine ⟨⟨_, he, rfl⟩, wpAny_pyIter_enum he ?_⟩
    have hit := h2 ((s1.heap.push o).push { cls := .type "enumerate", data := .fields #[.none, .bool false, .ref s1.heap.objs.size, rawInt 0, .none, .none] }) s1.heap.objs.size (Heap.get?_push_of_some _ (Heap.get?_push_size _ B.free))
    refine ⟨s1.heap.objs.size + 1, [s1.heap.objs.size + 1, s1.heap.objs.size], _, _, H1, rfl, I1.kept (t' := s1.toks) fun b u y => Heap.get?_push_of_some _ (Heap.get?_push_of_some _ y), turn_enumS (Nat.succ_ne_self _) (h3 _ (Nat.le_succ _)) (h3 _ (Nat.le_refl _)), ⟨⟨_, he⟩, hit⟩, fun b hb => ?_, q⟩
    have hle : s1.heap.objs.size ≤ b := by
      rcases List.mem_cons.mp hb with rfl | hb
      · exact Nat.le_succ _
      · rw [List.mem_singleton.mp hb]; exact Nat.le_refl _
    exact I1.fpOk hle (I1.hok.fresh hle)
def iZpS (K : PySem.W.Frag) (ta : TA) : TI := fun σ H R => ta σ H fun vs H1 => ∃ S U : Sr, vs = [S.val, U.val] ∧ (∃ xs, S.has K H1 xs) ∧ (∃ ys, U.has K H1 ys) ∧ R (ItZ K S U) H1
theorem pi_zipS {ta : TA} {p pos tpos : Pos} {elts : List Expr} {kk : Nat} (hg : Gl X "zip") (hm : X.mg "zip" = none) (ha : PA X [e, e2] ta)
    (hs : starEach [e, e2] X.env = (false, eval e X.env) :: starEach [e2] X.env) (hpl : (backTo pos (starEach [e2] X.env)).any (·.1) = false) :
    PI X (.Tuple elts kk tpos) (.Call (.Name "zip" p) [e, e2] [] pos) (iZpS X.K ta) := by
  refine ⟨fun pins s σ H R I h => Call_ (ld_blt I hg hm PyProof.Rows.boot_zip (PyProof.Rows.callWith_type1 (thn (ha.run pos pins s σ H _ I h) fun us s1 ⟨vs, H1, I1, r1, S, U, ex, ⟨xs, ok⟩, ⟨ys, ok2⟩, q⟩ => ?_) hs hpl))⟩
  subst ex
  cases r1 with
  | cons r rr =>
    cases rr with
    | cons r' rr =>
      cases rr
      obtain ⟨o1, H1', B1, a1, a2, a3⟩ := Sr.begins I1 ok r
      obtain ⟨o2, H2', B2, b1, b2, b3⟩ := Sr.begins I1 ok2 r'
      refine zip_begins2 B1 B2 a1 b1 fun h' hz hTI hTO g1 g2 hsz hk => wpAny_pyIter_zip hz ?_
      have le : ∀ k, s1.heap.objs.size ≤ s1.heap.objs.size + k := fun k => Nat.le_add_right _ _
      refine ⟨s1.heap.objs.size + 4, [s1.heap.objs.size + 4, s1.heap.objs.size + 2, s1.heap.objs.size + 3, s1.heap.objs.size, s1.heap.objs.size + 1], _, _, H1, rfl, I1.kept (t' := s1.toks) hk,
        turn_zipS { fz := a3 _ (le 4), fT := a3 _ (le 3), f1 := a3 _ (le 0), f2 := a3 _ (le 1), gz := b3 _ (le 4), gT := b3 _ (le 3), g1 := b3 _ (le 0), g2 := b3 _ (le 1),
                    TIz := ?_, TOz := ?_, TITO := ?_, TI1 := ?_, TI2 := ?_, z1 := ?_, z2 := ?_, TO1 := ?_, TO2 := ?_, ne := ?_ }, ⟨hz, hTI, ⟨_, _, hTO⟩, a2 _ _ g1, b2 _ _ g2⟩, fun c hc => ?_, q⟩
      case refine_11 =>
        have hle : s1.heap.objs.size ≤ c := by
          simp only [List.mem_cons, List.not_mem_nil, or_false] at hc
          rcases hc with rfl | rfl | rfl | rfl | rfl
          · exact le 4
          · exact le 2
          · exact le 3
          · exact le 0
          · exact le 1
        exact I1.fpOk hle (I1.hok.fresh hle)
      all_goals (generalize s1.heap.objs.size = n; intro (z : (_ : Nat) = _); omega)
end
end Mi
end
section
set_option Elab.async false
set_option linter.all false
set_option maxRecDepth 100000
set_option maxHeartbeats 4000000
/-! Walks, targets, comprehensions, statements. -/
namespace Mi
open PySem PySem.Spec PyProof.Rows L2
section
variable {K : PySem.W.Frag} {L : Lnk} {ω ω' : Wd}
/-- what the source S gives, told by f -/
def Reads (K : PySem.W.Frag) (L : Lnk) (f : IT) (S : Sr) (ω : Wd) : Prop := ∀ ω', Ev0 K ω ω' → Rel K L ω' → ∀ i, match f ω'.S i with
  | none => True
  | some none => ∃ xs, S.has K ω'.H xs ∧ xs.length = i
  | some (some d) => ∃ xs x, S.has K ω'.H xs ∧ xs[i]? = some x ∧ RV K L ω' d x
/-- what the iterator J yields, told by f -/
def Yields (K : PySem.W.Frag) (L : Lnk) (J : It) (f : IT) (ω : Wd) : Prop := ∀ ω', Ev0 K ω ω' → Rel K L ω' → ∀ i, match f ω'.S i with
  | none => True
  | some none => J.stop i ω'.H
  | some (some d) => J.go i ω'.H ∧ ∀ x H', J.yld i ω'.H x H' → ∃ ω'', ω''.H = H' ∧ Ev K ω' ω'' ∧ Rel K L ω'' ∧ ω''.S = ω'.S ∧ RV K L ω'' d x
theorem reads_fix {S : Sr} {ds : List D} {vs : List V} (h : ∀ ω', Ev0 K ω ω' → S.has K ω'.H vs) (rs : RVs K L ω ds vs) : Reads K L (itFix ds) S ω := by
  intro ω1 ev r1 i
  have hl := rs.length
  unfold itFix
  by_cases hi : i ≤ ds.length
  · rw [if_pos hi]
    cases q : ds[i]? with
    | none =>
      rw [List.getElem?_eq_none_iff] at q
      exact ⟨vs, h ω1 ev, by omega⟩
    | some d =>
      obtain ⟨v, h1, h2⟩ := (RVs.m0 ev ds rs).get q
      exact ⟨vs, v, h ω1 ev, h1, h2⟩
  · rw [if_neg hi]; trivial
theorem sgs_R : ∀ {z : Sg}, okS z → RVs K L ω (z.map fun c => D.str [c]) (sgs (toStr z)) := by
  intro z hz
  have key : ∀ l : Sg, (∀ c ∈ l, okS [c]) → RVs K L ω (l.map fun c => D.str [c]) (l.map fun c => V.str ⟨#[c]⟩) := by
    intro l
    induction l with
    | nil => intro _; rfl
    | cons c r ih => intro h; exact ⟨_, _, rfl, ⟨rfl, h c List.mem_cons_self⟩, ih fun d hd => h d (List.mem_cons_of_mem _ hd)⟩
  have e : sgs (toStr z) = z.map fun c => V.str ⟨#[c]⟩ := by simp [sgs, toStr]
  rw [e]
  exact key z fun c hc => okS_one hz hc
theorem src_of {d : D} {f : IT} {v : V} (h : itOf ω.S d = some f) (r : Rel K L ω) (rv : RV K L ω d v) : ∃ S : Sr, v = S.val ∧ (∃ xs, S.has K ω.H xs) ∧ Reads K L f S ω := by
  unfold itOf at h
  split at h
  · cases h
    obtain ⟨rfl, ok⟩ := rv
    exact ⟨.str _, rfl, ⟨_, rfl⟩, reads_fix (fun _ _ => rfl) (sgs_R ok)⟩
  · cases h
    obtain ⟨a, vs, rfl, ht, rs⟩ := rv
    exact ⟨.tup a, rfl, ⟨vs, ht.sq⟩, reads_fix (fun ω1 ev => (IsT.m0 ev ht).sq) rs⟩
  · cases h
    obtain ⟨a, vs, rfl, ht, rs⟩ := rv
    exact ⟨.lst a, rfl, ⟨vs, ht.sq⟩, reads_fix (fun ω1 ev => (IsL.m0 ev ht).sq) rs⟩
  · cases h
    obtain ⟨a, vs, rfl, ht, rs⟩ := rv
    exact ⟨.lst a, rfl, ⟨vs, ht.sq⟩, reads_fix (fun ω1 ev => (IsLk.m0 ev ht).sq) rs⟩
  · split at h
    · rename_i ds hds
      rename_i n _
      cases h
      obtain ⟨hn, rfl⟩ := rv
      obtain ⟨vs, h1, _⟩ := r.live _ _ hds
      refine ⟨.lst (ω.M n), rfl, ⟨vs, .of h1⟩, fun ω1 ev r1 i => ?_⟩
      unfold itLive
      cases q : ω1.S[n]? with
      | none => trivial
      | some o =>
        cases o with
        | none => trivial
        | some so =>
          cases so with
          | lst es =>
            obtain ⟨us, h2, rs⟩ := r1.live _ _ q
            have hl := rs.length
            rw [ev.mp n hn] at h2
            dsimp only
            by_cases hi : i ≤ es.length
            · rw [if_pos hi]
              cases q2 : es[i]? with
              | none =>
                rw [List.getElem?_eq_none_iff] at q2
                exact ⟨us, .of h2, by omega⟩
              | some d =>
                obtain ⟨u, h3, h4⟩ := rs.get q2
                exact ⟨us, u, .of h2, h3, h4⟩
            · rw [if_neg hi]; trivial
          | dct kvs lk => trivial
          | ins c fs => trivial
    · cases h
  · cases h
theorem Reads.yields {f : IT} {S : Sr} (h : Reads K L f S ω) : Yields K L (S.it K) f ω := by
  intro ω1 ev r1 i
  have q := h ω1 ev r1 i
  have same : ∀ {d : D} {x : V} {H' : Hp}, RV K L ω1 d x → H' = ω1.H → ∃ ω'', ω''.H = H' ∧ Ev K ω1 ω'' ∧ Rel K L ω'' ∧ ω''.S = ω1.S ∧ RV K L ω'' d x := fun rv e => ⟨ω1, e.symm, Ev.refl _, r1, rfl, rv⟩
  cases hf : f ω1.S i with
  | none => trivial
  | some o =>
    rw [hf] at q
    cases o with
    | none =>
      obtain ⟨xs, hx, hl⟩ := q
      cases S with
      | lst a => exact ⟨xs, hx, Nat.le_of_eq hl⟩
      | tup a => exact ⟨xs, hx, Nat.le_of_eq hl⟩
      | str x =>
        have hx : xs = sgs x := hx
        subst hx
        exact Nat.le_of_eq (by simpa [sgs] using hl)
    | some d =>
      obtain ⟨xs, x, hx, hi, rv⟩ := q
      cases S with
      | lst a => exact ⟨⟨xs, x, hx, hi⟩, fun y H' ⟨e, z⟩ => by have w := z xs hx; rw [hi] at w; cases w; exact same rv e⟩
      | tup a => exact ⟨⟨xs, x, hx, hi⟩, fun y H' ⟨e, z⟩ => by have w := z xs hx; rw [hi] at w; cases w; exact same rv e⟩
      | str t =>
        have hx : xs = sgs t := hx
        subst hx
        have hlt : i < t.cps.size := by simpa [sgs] using (List.getElem?_eq_some_iff.mp hi).1
        refine ⟨hlt, fun y H' ⟨e, c, hc, hy⟩ => ?_⟩
        have : y = x := by
          simp [sgs, hc] at hi
          rw [hy, hi]
        subst this
        exact same rv e
theorem Reads.yieldsE {f : IT} {S : Sr} (h : Reads K L f S ω) : Yields K L (ItE K S) (itEnu f) ω := by
  intro ω1 ev r1 i
  have q := h ω1 ev r1 i
  unfold itEnu
  cases hf : f ω1.S i with
  | none => trivial
  | some o =>
    rw [hf] at q
    cases o with
    | none => exact q
    | some d =>
      obtain ⟨xs, x, hx, hi, rv⟩ := q
      refine ⟨⟨xs, x, hx, hi⟩, fun y H' ⟨T, x', e1, hT, e2, z⟩ => ?_⟩
      have w := z xs hx
      rw [hi] at w
      cases w
      subst e1
      have e3 := Ev.lay (o := .tup [.int (i : Nat), x]) r1 hT
      exact ⟨ω1.lay T (.tup [.int (i : Nat), x]), e2.symm, e3, Rel.lay r1 hT, rfl, T, _, rfl, IsT.new, _, _, rfl, rfl, _, _, rfl, RV.mono e3 d rv, rfl⟩
theorem reads_zip {f g : IT} {S U : Sr} (h : Reads K L f S ω) (h' : Reads K L g U ω) : Yields K L (ItZ K S U) (itZip f g) ω := by
  intro ω1 ev r1 i
  have q := h ω1 ev r1 i
  have q' := h' ω1 ev r1 i
  unfold itZip
  cases hf : f ω1.S i with
  | none => cases hg : g ω1.S i <;> trivial
  | some o =>
    rw [hf] at q
    cases hg : g ω1.S i with
    | none => cases o <;> trivial
    | some o' =>
      rw [hg] at q'
      cases o with
      | none =>
        obtain ⟨xs, hx, hl⟩ := q
        cases o' with
        | none =>
          obtain ⟨ys, hy, hl'⟩ := q'
          exact ⟨xs, ys, hx, hy, by omega⟩
        | some d' =>
          obtain ⟨ys, y, hy, hi, rv⟩ := q'
          have := (List.getElem?_eq_some_iff.mp hi).1
          exact ⟨xs, ys, hx, hy, by omega⟩
      | some d =>
        obtain ⟨xs, x, hx, hi, rv⟩ := q
        have l1 := (List.getElem?_eq_some_iff.mp hi).1
        cases o' with
        | none =>
          obtain ⟨ys, hy, hl'⟩ := q'
          exact ⟨xs, ys, hx, hy, by omega⟩
        | some d' =>
          obtain ⟨ys, y, hy, hi', rv'⟩ := q'
          refine ⟨⟨xs, ys, x, y, hx, hy, hi, hi'⟩, fun v H' ⟨T, x', y', e1, hT, e2, z, z'⟩ => ?_⟩
          have w := z xs hx
          rw [hi] at w
          cases w
          have w' := z' ys hy
          rw [hi'] at w'
          cases w'
          subst e1
          have e3 := Ev.lay (o := .tup [x, y]) r1 hT
          exact ⟨ω1.lay T (.tup [x, y]), e2.symm, e3, Rel.lay r1 hT, rfl, T, _, rfl, IsT.new, _, _, rfl, RV.mono e3 d rv, _, _, rfl, RV.mono e3 d' rv', rfl⟩
end
section
variable {K : PySem.W.Frag} {C : Cn} {W : WX} {ω : Wd} {σ : L2.St} {H : Hp} {R : It → Hp → Prop} {ca cb : CE}
def tI (K : PySem.W.Frag) (C : Cn) (W : WX) (ci : CI) : TI := fun σ H R => ∃ ω e, ω.H = H ∧ Rel K C.L ω ∧ EnvR K C.L ω e σ ∧ Rn K C.L (evI C.P C.F ci e ω.S) (fun ω' f => ∀ J, Yields K C.L J f ω' → R J ω'.H) (JXof K C.L W σ) ω
theorem i_seq (h : tI K C W (.seq ca) σ H R) : iSr K (tE K C W ca) σ H R := by
  obtain ⟨ω, e, rfl, r, er, h⟩ := h
  refine tE.step r er h fun ω1 d1 v1 e1 r1 q1 h1 => ?_
  obtain ⟨f, hf, h2⟩ := Rn.lift h1
  obtain ⟨S, hv, hx, rd⟩ := src_of hf r1 q1
  exact ⟨S, hv, hx, h2.here r1 _ rd.yields⟩
theorem i_enu (h : tI K C W (.enu ca) σ H R) : iEnS K (tCons (tE K C W ca) tNil) σ H R := by
  obtain ⟨ω, e, rfl, r, er, h⟩ := h
  refine tE.step r er h fun ω1 d1 v1 e1 r1 q1 h1 => ?_
  obtain ⟨f, hf, h2⟩ := Rn.lift h1
  cases hg : itOf ω1.S d1 with
  | none => rw [hg] at hf; cases hf
  | some g =>
    rw [hg] at hf
    cases hf
    obtain ⟨S, rfl, hx, rd⟩ := src_of hg r1 q1
    exact ⟨S, rfl, hx, h2.here r1 _ rd.yieldsE⟩
theorem i_zip (h : tI K C W (.zip ca cb) σ H R) : iZpS K (tCons (tE K C W ca) (tCons (tE K C W cb) tNil)) σ H R := by
  obtain ⟨ω, e, rfl, r, er, h⟩ := h
  simp only [iZpS, iRng2, tCons]
  refine tE.step r er h fun ω1 d1 v1 e1 r1 q1 h1 => ?_

  refine tE.step r1 (er.mono e1) h1 fun ω2 d2 v2 e2 r2 q2 h2 => ?_
  obtain ⟨f, hf, h3⟩ := Rn.lift h2
  cases hg : itOf ω2.S d1 with
  | none => rw [hg] at hf; cases hf
  | some g =>
    rw [hg] at hf
    cases hg' : itOf ω2.S d2 with
    | none => rw [hg'] at hf; cases hf
    | some g' =>
      rw [hg'] at hf
      cases hf
      obtain ⟨S, rfl, hx, rd⟩ := src_of hg r2 (RV.mono e2 d1 q1)
      obtain ⟨U, rfl, hy, rd'⟩ := src_of hg' r2 q2
      exact ⟨S, U, rfl, hx, hy, h3.here r2 _ (reads_zip rd rd')⟩
theorem yields_rng {L : Lnk} {lo : Int} {n : Nat} : Yields K L (Itr lo n) (itFix ((List.range n).map fun (i : Nat) => .int (lo + (i : Int)))) ω := by
  intro ω1 ev r1 i
  unfold itFix
  by_cases hi : i ≤ ((List.range n).map fun (i : Nat) => D.int (lo + (i : Int))).length
  · rw [if_pos hi]
    have hl : ((List.range n).map fun (i : Nat) => D.int (lo + (i : Int))).length = n := by simp
    rw [hl] at hi
    by_cases hn : i < n
    · rw [List.getElem?_map, List.getElem?_range hn]
      refine ⟨hn, fun x H' ⟨e, hx⟩ => ⟨ω1, e.symm, Ev.refl _, r1, rfl, hx⟩⟩
    · have : i = n := by omega
      subst this
      rw [List.getElem?_eq_none (by simp)]
      exact Nat.le_refl _
  · rw [if_neg hi]; trivial
theorem i_rng1 (h : tI K C W (.rng [ca]) σ H R) : iRng1 (tCons (tE K C W ca) tNil) σ H R := by
  obtain ⟨ω, e, rfl, r, er, h⟩ := h
  have h : Rn K C.L (((evE C.P C.F ca e ω.S).bnd fun x S1 => (Re.ok [] S1).bnd fun xs S2 => Re.ok (x :: xs) S2).bnd fun xs S1 => lift ((rngD xs).map itFix) S1) (fun ω' f => ∀ J, Yields K C.L J f ω' → R J ω'.H) (JXof K C.L W σ) ω := h
  rw [Re.assoc] at h
  refine tE.step r er h fun ω1 d1 v1 e1 r1 q1 h1 => ?_
  obtain ⟨f, hf, h2⟩ := Rn.lift (show Rn K C.L (lift ((rngD [d1]).map itFix) ω1.S) _ _ _ from h1)
  unfold rngD at hf
  split at hf
  · rename_i n hn
    cases hn
    split at hf
    · rename_i hc
      cases hf
      cases q1
      refine ⟨n, rfl, by omega, by omega, h2.here r1 _ ?_⟩
      have z := yields_rng (K := K) (ω := ω1) (L := C.L) (lo := 0) (n := n.toNat)
      simpa using z
    · cases hf
  · rename_i hn; cases hn
  · cases hf
theorem i_rng2 (h : tI K C W (.rng [ca, cb]) σ H R) : iRng2 (tCons (tE K C W ca) (tCons (tE K C W cb) tNil)) σ H R := by
  obtain ⟨ω, e, rfl, r, er, h⟩ := h
  have h : Rn K C.L (((evE C.P C.F ca e ω.S).bnd fun x S1 => ((evE C.P C.F cb e S1).bnd fun y S2 => (Re.ok [] S2).bnd fun xs S3 => Re.ok (y :: xs) S3).bnd fun xs S2 => Re.ok (x :: xs) S2).bnd fun xs S1 => lift ((rngD xs).map itFix) S1) (fun ω' f => ∀ J, Yields K C.L J f ω' → R J ω'.H) (JXof K C.L W σ) ω := h
  rw [Re.assoc] at h
  simp only [iZpS, iRng2, tCons]
  refine tE.step r er h fun ω1 d1 v1 e1 r1 q1 h1 => ?_
  rw [Re.assoc, Re.assoc] at h1

  refine tE.step r1 (er.mono e1) h1 fun ω2 d2 v2 e2 r2 q2 h2 => ?_
  obtain ⟨f, hf, h3⟩ := Rn.lift (show Rn K C.L (lift ((rngD [d1, d2]).map itFix) ω2.S) _ _ _ from h2)
  unfold rngD at hf
  split at hf
  · rename_i hn; cases hn
  · rename_i a b hn
    cases hn
    split at hf
    · rename_i hc
      cases hf
      cases q1
      cases q2
      exact ⟨a, b, rfl, by omega, h3.here r2 _ yields_rng⟩
    · cases hf
  · cases hf
end
end Mi
end
section
set_option Elab.async false
set_option linter.all false
set_option maxRecDepth 100000
set_option maxHeartbeats 4000000
/-! Targets. -/
namespace Mi
open PySem PySem.Spec PyProof.Rows L2
/-- the slots but those at ns are as they were -/
def Off (ns : List Nat) (σ σ' : L2.St) : Prop := σ'.length = σ.length ∧ ∀ i, i ∉ ns → σ'[i]? = σ[i]?
theorem Off.refl (ns : List Nat) (σ : L2.St) : Off ns σ σ := ⟨rfl, fun _ _ => rfl⟩
theorem Off.trans {a b : List Nat} {σ σ' σ'' : L2.St} (h : Off a σ σ') (q : Off b σ' σ'') : Off (a ++ b) σ σ'' :=
  ⟨q.1.trans h.1, fun i hi => (q.2 i fun z => hi (List.mem_append_right _ z)).trans (h.2 i fun z => hi (List.mem_append_left _ z))⟩
theorem Off.set (σ : L2.St) (i : Nat) (v : Option V) : Off [i] σ (σ.set i v) := ⟨by simp, fun j hj => List.getElem?_set_ne fun e => hj (by simp [e])⟩
theorem Off.mono {a b : List Nat} {σ σ' : L2.St} (h : Off a σ σ') (k : ∀ i ∈ a, i ∈ b) : Off b σ σ' := ⟨h.1, fun i hi => h.2 i fun z => hi (k i z)⟩
theorem wipe_get {vs : List Nat} {σ : L2.St} {i : Nat} (hi : i < σ.length) : (L2.wipe σ vs)[i]? = if i ∈ vs then some none else σ[i]? := by
  induction vs with
  | nil => simp [L2.wipe]
  | cons v vs ih =>
    show ((L2.wipe σ vs).set v none)[i]? = _
    by_cases e : v = i
    · subst e
      rw [List.getElem?_set_self (by rw [L2.wipe_length]; exact hi), if_pos (by simp)]
    · rw [List.getElem?_set_ne e, ih]
      by_cases m : i ∈ vs
      · rw [if_pos m, if_pos (List.mem_cons_of_mem _ m)]
      · rw [if_neg m, if_neg (by simp only [List.mem_cons, not_or]; exact ⟨fun z => e z.symm, m⟩)]
theorem Off.wipe {vs ns : List Nat} {σ σ' : L2.St} (h : Off ns σ σ') (k : ∀ i ∈ ns, i ∈ vs) : L2.wipe σ' vs = L2.wipe σ vs := by
  apply List.ext_getElem?
  intro i
  by_cases hi : i < σ.length
  · rw [wipe_get (by rw [h.1]; exact hi), wipe_get hi]
    split
    · rfl
    · rename_i m
      exact h.2 i fun z => m (k i z)
  · rw [List.getElem?_eq_none (by rw [L2.wipe_length, h.1]; omega), List.getElem?_eq_none (by rw [L2.wipe_length]; omega)]
mutual
/-- the slots that a target sets -/
def ctN : CT → List Nat
  | .name i => [i]
  | .tup ts => ctNs ts
  | .star ts i => ctNs ts ++ [i]
  | .sub _ _ => []
  | .att _ _ => []
def ctNs : List CT → List Nat
  | [] => []
  | t :: ts => ctN t ++ ctNs ts
end
abbrev noJX : Wd → Nat → List (Sg × D) → Prop := fun _ _ _ => False
section
variable {K : PySem.W.Frag} {C : Cn} {W : WX} {ω : Wd} {σ : L2.St} {H : Hp} {v : V} {Q : L2.St → Hp → Prop}
def tG (K : PySem.W.Frag) (C : Cn) (t : CT) : TG := fun v σ H Q => ∃ ω e d, ω.H = H ∧ Rel K C.L ω ∧ EnvR K C.L ω e σ ∧ RV K C.L ω d v ∧
  Rn K C.L (asg C.P C.F t d e ω.S) (fun ω' e' => ∀ σ', EnvR K C.L ω' e' σ' → Off (ctN t) σ σ' → Q σ' ω'.H) noJX ω
def tGs (K : PySem.W.Frag) (C : Cn) (ts : List CT) : TGs := fun vs σ H Q => ∃ ω e ds, ω.H = H ∧ Rel K C.L ω ∧ EnvR K C.L ω e σ ∧ RVs K C.L ω ds vs ∧
  Rn K C.L (asgs C.P C.F ts ds e ω.S) (fun ω' e' => ∀ σ', EnvR K C.L ω' e' σ' → Off (ctNs ts) σ σ' → Q σ' ω'.H) noJX ω
theorem i_gname {i : Nat} (h : tG K C (.name i) v σ H Q) : gName i v σ H Q := by
  obtain ⟨ω, e, d, rfl, r, er, rv, h⟩ := h
  simp only [asg] at h
  split at h
  · exact h.here r _ (er.set rv) (Off.set _ _ _)
  · exact h.elim
theorem i_gnil {vs : List V} (h : tGs K C [] vs σ H Q) : gNil vs σ H Q := by
  obtain ⟨ω, e, ds, rfl, r, er, rv, h⟩ := h
  cases ds with
  | nil => cases rv; exact ⟨rfl, h.here r _ er (Off.refl _ _)⟩
  | cons d ds => exact h.elim
theorem i_gcons {t : CT} {ts : List CT} {vs : List V} (h : tGs K C (t :: ts) vs σ H Q) : gCons (tG K C t) (tGs K C ts) vs σ H Q := by
  obtain ⟨ω, e, ds, rfl, r, er, rv, h⟩ := h
  cases ds with
  | nil => exact h.elim
  | cons d ds =>
    obtain ⟨v, us, rfl, r1, r2⟩ := rv
    refine ⟨v, us, rfl, ω, e, d, rfl, r, er, r1, (Rn.bnd h).imp fun ω1 e1 ev rr hh σ1 er1 of1 => ?_⟩
    exact ⟨ω1, e1, ds, rfl, rr, er1, RVs.mono ev ds r2, hh.imp fun ω2 e2 _ _ z σ2 er2 of2 => z σ2 er2 (of1.trans of2)⟩
theorem i_gtup {ts : List CT} {n : Nat} (hn : n = ts.length) (h : tG K C (.tup ts) v σ H Q) : gTup K n (tGs K C ts) v σ H Q := by
  obtain ⟨ω, e, d, rfl, r, er, rv, h⟩ := h
  simp only [asg] at h
  split at h
  · rename_i ds
    split at h
    · rename_i hl
      obtain ⟨a, vs, rfl, ht, rs⟩ := rv
      exact ⟨a, vs, rfl, ht.sq, by rw [rs.length, hl, hn], ω, e, ds, rfl, r, er, rs, h⟩
    · exact h.elim
  · exact h.elim
/-- o[i] = .., by values -/
def sSet (K : PySem.W.Frag) (L : Lnk) : TSet := fun o i v H Q => ∃ ω dO di d S', ω.H = H ∧ Rel K L ω ∧ RV K L ω dO o ∧ RV K L ω di i ∧ RV K L ω d v ∧ setItem ω.S dO di d = some S' ∧ ∀ ω', Ev K ω ω' → Rel K L ω' → ω'.S = S' → Q ω'.H
theorem i_gsub {co ci : CE} (h : tG K C (.sub co ci) v σ H Q) : gSub (tE K C W co) (tE K C W ci) (sSet K C.L) v σ H Q := by
  obtain ⟨ω, e, d, rfl, r, er, rv, h⟩ := h
  have h : Rn K C.L ((evE C.P C.F co e ω.S).nox.bnd fun x S1 => (evE C.P C.F ci e S1).nox.bnd fun y S2 => (match setItem S2 x y d with
    | some S3 => Re.ok e S3
    | none => Re.stuck)) (fun ω' e' => ∀ σ', EnvR K C.L ω' e' σ' → Off (ctN (.sub co ci)) σ σ' → Q σ' ω'.H) noJX ω := h
  simp only [gSub]
  refine ⟨ω, e, rfl, r, er, Rn.nox (JX := noJX) ((Rn.bnd h).imp fun ω1 d1 e1 r1 h1 v1 q1 => ?_)⟩
  refine ⟨ω1, e, rfl, r1, er.mono e1, Rn.nox (JX := noJX) ((Rn.bnd h1).imp fun ω2 d2 e2 r2 h2 v2 q2 => ?_)⟩
  split at h2
  · rename_i S3 hs
    exact ⟨ω2, d1, d2, d, S3, rfl, r2, RV.mono e2 d1 q1, q2, RV.mono (e1.trans e2) d rv, hs, fun ω3 e3 r3 es => h2 ω3 e3 r3 es σ (((er.mono e1).mono e2).mono e3) (Off.refl _ _)⟩
  · exact h2.elim
end
section
variable {X : Cx} {L : Lnk} {ω : Wd} {C : Cn}
theorem rvk_any {K : PySem.W.Frag} {k : D} {l : Key} (hk : keyOf k = some l) : ∀ {kvs : List (D × D)} {ws : List (Key × V)}, RVk K L ω kvs ws → (ws.any fun p => decide (p.1 = l)) = kvs.any fun p => eqD p.1 k
  | [], _, h => by cases h; rfl
  | (a, b) :: r, _, ⟨j, v, rest, h1, ⟨h2, _⟩, h3, h4⟩ => by
    subst h1
    rw [List.any_cons, List.any_cons, rvk_any hk h4]
    congr 1
    rw [Bool.eq_iff_iff, decide_eq_true_eq]
    exact key_eq h2 hk
theorem rvk_map {K : PySem.W.Frag} {k x : D} {l : Key} {u : V} (hk : keyOf k = some l) (hx : RV K L ω x u) : ∀ {kvs : List (D × D)} {ws : List (Key × V)}, RVk K L ω kvs ws →
    RVk K L ω (kvs.map fun p => if eqD p.1 k then (p.1, x) else p) (ws.map fun p => if p.1 = l then (p.1, u) else p)
  | [], _, h => by cases h; rfl
  | (a, b) :: r, _, ⟨j, v, rest, h1, h2, h3, h4⟩ => by
    subst h1
    rw [List.map_cons, List.map_cons]
    by_cases e : j = l
    · rw [if_pos ((key_eq h2.1 hk).mp e), if_pos e]
      exact ⟨j, u, _, rfl, h2, hx, rvk_map hk hx h4⟩
    · rw [if_neg (fun q => e ((key_eq h2.1 hk).mpr q)), if_neg e]
      exact ⟨j, v, _, rfl, h2, h3, rvk_map hk hx h4⟩
theorem rvk_app {K : PySem.W.Frag} {k x : D} {l : Key} {u : V} (hk : keyOf k = some l) (ok : okKey k) (hx : RV K L ω x u) : ∀ {kvs : List (D × D)} {ws : List (Key × V)}, RVk K L ω kvs ws → RVk K L ω (kvs ++ [(k, x)]) (ws ++ [(l, u)])
  | [], _, h => by cases h; exact ⟨l, u, [], rfl, ⟨hk, ok⟩, hx, rfl⟩
  | (a, b) :: r, _, ⟨j, v, rest, h1, h2, h3, h4⟩ => by
    subst h1
    exact ⟨j, v, _, rfl, h2, h3, rvk_app hk ok hx h4⟩
theorem putK_R {K : PySem.W.Frag} {k x : D} {l : Key} {u : V} {kvs : List (D × D)} {ws : List (Key × V)} (hk : keyOf k = some l) (ok : okKey k) (hx : RV K L ω x u) (h : RVk K L ω kvs ws) : RVk K L ω (putD k x kvs) (putK ws l u) := by
  unfold putD putK
  rw [rvk_any hk h]
  split
  · exact rvk_map hk hx h
  · exact rvk_app hk ok hx h
theorem okKey_of {K : PySem.W.Frag} {d : D} {v : V} (r : RV K L ω d v) : okKey d := fun x e => by subst e; exact r.2
theorem rvk_len {K : PySem.W.Frag} : ∀ {kvs : List (D × D)} {ws : List (Key × V)}, RVk K L ω kvs ws → ws.length = kvs.length
  | [], _, h => by cases h; rfl
  | (a, b) :: r, _, ⟨j, v, rest, h1, _, _, h4⟩ => by subst h1; simp [rvk_len h4]
theorem set_R (hu : X.A.units + 1 < cLine) : PSet X (sSet X.K L) := by
  intro pins s σ H o i v ov iv u Q I ro ri rv ⟨ω, dO, di, d, S', hH, r, q1, q2, q3, hs, k⟩
  subst hH
  unfold setItem at hs
  split at hs
  · rename_i n
    obtain ⟨hn, rfl⟩ := q1
    split at hs
    · rename_i ds hds
      obtain ⟨vs, h1, rs⟩ := r.live _ _ hds
      split at hs
      · rename_i j
        cases q2
        cases hj : ixOf ds.length j with
        | none => rw [hj] at hs; cases hs
        | some m =>
          rw [hj] at hs
          cases hs
          refine set_list pins s σ _ _ _ _ ov iv u Q I ro ri rv ⟨_, vs, j, m, rfl, rfl, h1, by rw [rs.length]; exact hj, ?_⟩
          have ev : Ev X.K ω (ω.put n (.lst (vs.set m v)) (.lst (ds.set m d))) := Ev.put r hds
          exact k (ω.put n (.lst (vs.set m v)) (.lst (ds.set m d))) ev (Rel.put r hds ⟨_, upd_same, (RVs.mono ev ds rs).set m (RV.mono ev d q3)⟩) rfl
      · cases hs
    · rename_i kvs hds
      split at hs
      · rename_i hc
        simp only [Bool.and_eq_true, decide_eq_true_eq] at hc
        cases hs
        obtain ⟨ws, h1, rk⟩ := r.live _ _ hds
        obtain ⟨l, hl, rfl⟩ := keyOf_kV hc.1 q2
        have ev : Ev X.K ω (ω.put n (.dK (putK ws l v)) (.dct (putD di d kvs) false)) := Ev.put r hds
        refine set_dict hu pins s σ _ _ _ _ ov iv u Q I ro ri rv ⟨_, _, rfl, DPut.k h1 (by rw [rvk_len rk]; exact hc.2), ?_⟩
        exact k (ω.put n (.dK (putK ws l v)) (.dct (putD di d kvs) false)) ev (Rel.put r hds ⟨_, upd_same, putK_R hl (okKey_of q2) (RV.mono ev d q3) (RVk.mono ev kvs rk)⟩) rfl
      · cases hs
    · cases hs
  · cases hs
end
end Mi
end
section
set_option Elab.async false
set_option linter.all false
set_option maxRecDepth 100000
set_option maxHeartbeats 4000000
/-! Star targets, comprehensions, statements. -/
namespace Mi
open PySem PySem.Spec PyProof.Rows L2
section
variable {K : PySem.W.Frag} {L : Lnk} {ω ω' : Wd} {α β : Type} {J : Wd → α → Prop} {JX : Wd → Nat → List (Sg × D) → Prop}
theorem Rn.to {m : Re α} (ev : Ev K ω ω') (h : Rn K L m J JX ω) : Rn K L m J JX ω' := by
  cases m with
  | ok a S => exact fun ω2 e2 r2 q2 => h ω2 (ev.trans e2) r2 q2
  | exc c fs S => exact fun ω2 e2 r2 q2 => h ω2 (ev.trans e2) r2 q2
  | stuck => exact h
end
/-! ### a, .., *b = a tuple -/
section
variable {X : Cx} {pos : Pos}
def gStar (K : PySem.W.Frag) (n : Nat) (t : TGs) : TG := fun v σ H Q => ∃ a xs, v = .ref a ∧ SqT K H a xs ∧ n ≤ xs.length ∧ xs.length ≤ 16384 ∧ ∀ p, H p = none → t (xs.take n ++ [.ref p]) σ (upd H p (.lst (xs.drop n))) Q
theorem pg_star {elts es : List Expr} {k : Nat} {t : TGs} {n : Nat} (hc : X.calm = true) (h : PGs X es t) (hlen : (assignEach elts X.env).length = n + 1) (hst : (assignEach elts X.env).findIdx? (·.1) = some n)
    (he : (assignEach elts X.env).map (·.2) = (assignEach es X.env).map (·.2)) : PG X (.Tuple elts k pos) (gStar X.K n t) := by
  refine ⟨fun pins s σ H v u Q I r hw => ?_⟩
  obtain ⟨a, xs, e1, hq, hn, hz, hw⟩ := hw
  subst e1
  cases r
  obtain ⟨its, rv, ht, _⟩ := I.tuple hq
  have hl := rv.length
  have hne : a ≠ s.heap.objs.size := Nat.ne_of_lt ht.lt
  rw [assign_Tuple]
  refine wpAny_bind (wpAny_standAt ?_)
  unfold unpack
  rw [hlen, hst, he]
  refine wpAny_bind (wpAny_holding ?_)
  unfold unpackItems
  refine wpAny_bind ?_
  unfold notIterableAtAll
  refine wpAny_bind (wpAny_specialOf ht.typeIs slot_tuple_iter.lookup (wpAny_pure ?_))
  simp only [Bool.false_eq_true, if_false]
  refine wpAny_bind (wpAny_holding (PyProof.Rows.iter_tuple ht ?_))
  have sz : its.toArray.size = its.length := List.size_toArray
  refine wpAny_bind (wpAny_holding (PyProof.Rows.draw_tuple hne n 0 _ _ ⟨_, Heap.get?_push_size _ rfl, rfl, rfl⟩ (ht.push _) (by omega) fun g1 st1 sb1 => ?_))
  have ht1 : IsTup g1 a its.toArray := (ht.push _).extBut sb1.extBut hne
  rw [Nat.zero_add] at st1
  obtain ⟨oi, hoi, _⟩ := id st1
  rw [List.drop_zero]
  have tl : (its.toArray.toList.take n).length = n := by rw [List.length_take]; simp; omega
  have dl : (its.toArray.toList.drop n).length = its.length - n := by rw [List.length_drop]
  rw [if_neg (by rw [tl]; exact Nat.lt_irrefl n)]
  refine wpAny_bind (wpAny_holding (PySem.W.kun_collect (s := { s with heap := g1 }) (T := "tuple_iterator") (.inr (.inr (.inr rfl))) (Walks.tuple (A := X.A.in1) (I.ok.hd hc) s.heap.objs.size a hne its.toArray) (fun j u q => q.1.typeIs)
    (k := n) (by omega) ⟨st1, ht1⟩ (Heap.lt_size hoi) ht1.lt (fun g2 tk k2 => ?_) (by rw [sizeLine_eq]; omega)))
  have e0 : n + 1 - 1 - n = 0 := by omega
  show wpAny _ _ (if (its.toArray.toList.drop n).length < n + 1 - 1 - n then _ else _) _ _ _
  rw [e0, if_neg (Nat.not_lt_zero _)]
  show wpAny _ _ (newList ((its.toArray.toList.drop n).take ((its.toArray.toList.drop n).length - 0)) >>= fun d => pure (its.toArray.toList.take n ++ [d] ++ (its.toArray.toList.drop n).drop ((its.toArray.toList.drop n).length - 0))) _ _ _
  rw [Nat.sub_zero, List.take_length, List.drop_length]
  have keep : ∀ b o, s.heap.get? b = some o → g2.get? b = some o := fun b o q => by
    have hb : b ≠ s.heap.objs.size := Nat.ne_of_lt (Heap.lt_size q)
    exact k2 b o hb (sb1.extBut b o hb (Heap.get?_push_of_some _ q))
  have I2 : Inv X pins σ H { s with heap := g2, toks := tk } := I.kept keep
  refine wpAny_bind (wpAny_newObj_type (wpAny_pure ?_) (show (its.toArray.toList.drop n).toArray.size ≤ sizeLine by rw [List.size_toArray, dl, sizeLine_eq]; omega))
  have I3 := I2.laid (a := g2.objs.size) (o := .lst (xs.drop n)) (h' := g2.push { cls := .type "list", data := .seq (its.toArray.toList.drop n).toArray }) (t' := tk) (fun _ _ q => Heap.get?_push_of_some _ q) (Nat.le_refl _)
    ⟨by rw [List.length_drop, sizeLine_eq]; omega, its.drop n, 0, rv.drop n, by simpa using Heap.get?_push_size (h := g2) (o := { cls := .type "list", data := .seq (its.drop n).toArray }) rfl⟩
  refine h.run pins _ σ _ (xs.take n ++ [.ref g2.objs.size]) _ Q I3 ?_ (hw _ (I2.hok.fresh (Nat.le_refl _)))
  simpa using (rv.take n).append (.cons (a := V.ref g2.objs.size) rfl .nil)
end
section
variable {K : PySem.W.Frag} {C : Cn} {W : WX} {ω : Wd} {σ : L2.St} {H : Hp} {v : V} {Q : L2.St → Hp → Prop}
theorem asgs_app {P : Pg} {F : Fns} {t : CT} {d : D} : ∀ {ts : List CT} {ds : List D} {e : Mi.Env} {S : Mi.St}, asgs P F (ts ++ [t]) (ds ++ [d]) e S = if ts.length = ds.length then (asgs P F ts ds e S).bnd fun e1 S1 => (asg P F t d e1 S1).bnd fun e2 S2 => .ok e2 S2 else asgs P F (ts ++ [t]) (ds ++ [d]) e S
  | [], [], e, S => by simp [asgs, Re.bnd]
  | [], _ :: _, e, S => by simp
  | _ :: _, [], e, S => by simp
  | a :: ts, b :: ds, e, S => by
    by_cases h : ts.length = ds.length
    · rw [if_pos (by simpa using h)]
      simp only [List.cons_append, asgs]
      rw [Re.assoc]
      congr 1
      funext e1 S1
      rw [asgs_app (ts := ts) (ds := ds), if_pos h]
    · rw [if_neg (by simpa using h)]
theorem ctNs_app : ∀ {ts : List CT} {i : Nat}, ctNs (ts ++ [.name i]) = ctNs ts ++ [i]
  | [], i => by simp [ctNs, ctN]
  | t :: ts, i => by simp only [List.cons_append, ctNs, ctNs_app, List.append_assoc]
theorem i_gstar {ts : List CT} {i n : Nat} (hn : n = ts.length) (h : tG K C (.star ts i) v σ H Q) : gStar K n (tGs K C (ts ++ [.name i])) v σ H Q := by
  subst hn
  obtain ⟨ω, e, d, rfl, r, er, rv, h⟩ := h
  simp only [asg] at h
  split at h
  · rename_i ds
    split at h
    · rename_i hl
      obtain ⟨a, vs, rfl, ht, rs⟩ := rv
      refine ⟨a, vs, rfl, ht.sq, by rw [rs.length]; exact hl.1, by rw [rs.length]; exact hl.2, fun p hp => ?_⟩
      have ev := Ev.lay (o := .lst (vs.drop ts.length)) r hp
      refine ⟨ω.lay p (.lst (vs.drop ts.length)), e, ds.take ts.length ++ [.lst (ds.drop ts.length)], rfl, Rel.lay r hp, er.mono ev,
        RVs.append ((RVs.mono ev ds rs).take _) (show RVs K C.L (ω.lay p (.lst (vs.drop ts.length))) [.lst (ds.drop ts.length)] [.ref p] from ⟨_, _, rfl, ⟨p, _, rfl, IsL.new r hp, (RVs.mono ev ds rs).drop _⟩, rfl⟩), ?_⟩
      rw [asgs_app, if_pos (by rw [List.length_take]; omega), ctNs_app]
      refine Rn.to ev ?_
      refine (show Rn K C.L ((asgs C.P C.F ts (ds.take ts.length) e ω.S).bnd fun e1 S1 => (asg C.P C.F (.name i) (.lst (ds.drop ts.length)) e1 S1).bnd fun e2 S2 => .ok e2 S2) _ _ ω from ?_)
      have same : (fun (e1 : Mi.Env) (S1 : Mi.St) => (asg C.P C.F (.name i) (.lst (ds.drop ts.length)) e1 S1).bnd fun e2 S2 => Re.ok e2 S2) = fun e1 S1 => if i < e1.length then Re.ok (e1.set i (some (.lst (ds.drop ts.length)))) S1 else .stuck := by
        funext e1 S1
        simp only [asg]
        split <;> rfl
      rw [same]
      exact h
    · exact h.elim
  · exact h.elim
end
/-! ### comprehensions -/
section
variable {K : PySem.W.Frag} {L : Lnk} {ω ω1 : Wd}
/-- without the private list -/
def Wd.res (ω : Wd) (B : Addr → Prop) : Wd := { ω with B := B }
theorem Ev0.res {B : Addr → Prop} (h : ∀ a, B a → ω.B a) : Ev0 K ω (ω.res B) where
  len := Nat.le_refl _
  mp := fun _ _ => rfl
  lst := fun a vs q f => ⟨q, f.1, fun z => f.2 (h a z)⟩
  dic := fun a ws ⟨q, f⟩ => ⟨q, f.1, fun z => f.2 (h a z)⟩
  tup := fun _ _ q => q
  lck := fun _ _ _ q => q
  xd := fun _ _ q => q
theorem Rel.res {B : Addr → Prop} (r : Rel K L ω) (h : ∀ a, B a → ω.B a) : Rel K L (ω.res B) where
  live := fun n o q => OR.m0 (a' := 0) (Ev0.res h) (r.live n o q) rfl
  inj := r.inj
  priv := fun n o q z => r.priv n o q (h _ z)
  held := fun a z => r.held a (h a z)
/-- the private list becomes a live object -/
def Wd.adopt (ω : Wd) (B : Addr → Prop) (a : Addr) (u : SO) : Wd := ⟨ω.S ++ [some u], fun n => if n = ω.S.length then a else ω.M n, ω.H, B⟩
theorem Ev0.adopt {B : Addr → Prop} {a : Addr} {u : SO} (h : ∀ a, B a → ω.B a) (ha : ω.B a) : Ev0 K ω (ω.adopt B a u) := by
  have fr : ∀ b, Frz ω b → Frz (ω.adopt B a u) b := fun b f => ⟨fun n o q => by
    rcases get_app q with ⟨hn, q⟩ | ⟨hn, _⟩
    · rw [show (ω.adopt B a u).M n = ω.M n from if_neg (Nat.ne_of_lt hn)]; exact f.1 n o q
    · rw [show (ω.adopt B a u).M n = a from if_pos hn]
      rintro rfl
      exact f.2 ha, fun z => f.2 (h b z)⟩
  exact ⟨by simp [Wd.adopt], fun n hn => if_neg (Nat.ne_of_lt hn), fun b vs q f => ⟨q, fr b f⟩, fun b ws ⟨q, f⟩ => ⟨q, fr b f⟩, fun _ _ q => q, fun _ _ _ q => q, fun _ _ q => q⟩
theorem Rel.adopt {B : Addr → Prop} {a : Addr} {u : SO} (r : Rel K L ω) (h : ∀ a, B a → ω.B a) (ha : ω.B a) (hb : ¬ B a) (new : OR K L (ω.adopt B a u) a u) : Rel K L (ω.adopt B a u) where
  live := fun n o q => by
    rcases get_app q with ⟨hn, q⟩ | ⟨hn, e⟩
    · rw [show (ω.adopt B a u).M n = ω.M n from if_neg (Nat.ne_of_lt hn)]
      exact OR.m0 (a' := 0) (Ev0.adopt h ha) (r.live n o q) rfl
    · rw [show (ω.adopt B a u).M n = a from if_pos hn, e]; exact new
  inj := fun n m x y hx hy e => by
    rcases get_app hx with ⟨hn, hx⟩ | ⟨hn, _⟩ <;> rcases get_app hy with ⟨hm, hy⟩ | ⟨hm, _⟩
    · rw [show (ω.adopt B a u).M n = ω.M n from if_neg (Nat.ne_of_lt hn), show (ω.adopt B a u).M m = ω.M m from if_neg (Nat.ne_of_lt hm)] at e
      exact r.inj n m x y hx hy e
    · rw [show (ω.adopt B a u).M n = ω.M n from if_neg (Nat.ne_of_lt hn), show (ω.adopt B a u).M m = a from if_pos hm] at e
      exact absurd (e ▸ ha) (r.priv n x hx)
    · rw [show (ω.adopt B a u).M n = a from if_pos hn, show (ω.adopt B a u).M m = ω.M m from if_neg (Nat.ne_of_lt hm)] at e
      exact absurd (e.symm ▸ ha) (r.priv m y hy)
    · omega
  priv := fun n o q z => by
    rcases get_app q with ⟨hn, q⟩ | ⟨hn, _⟩
    · rw [show (ω.adopt B a u).M n = ω.M n from if_neg (Nat.ne_of_lt hn)] at z
      exact r.priv n o q (h _ z)
    · rw [show (ω.adopt B a u).M n = a from if_pos hn] at z
      exact hb z
  held := fun b z => r.held b (h b z)
/-- the private object written -/
def Wd.pw (ω : Wd) (a : Addr) (o : HO) : Wd := { ω with H := upd ω.H a o }
theorem Ev0.pw {a : Addr} {o u : HO} (ha : ω.B a) (hx : ω.H a = some u) (nt : (∀ ys, u ≠ .tup ys) ∧ (∀ ob ys, u ≠ .frz ob (.lst ys)) ∧ ∀ ys, u ≠ .xd ys) : Ev0 K ω (ω.pw a o) := by
  have ne : ∀ b, Frz ω b → b ≠ a := fun b f e => f.2 (e ▸ ha)
  refine ⟨Nat.le_refl _, fun _ _ => rfl, fun b vs q f => ⟨(upd_ne (ne b f)).trans q, f⟩, fun b ws ⟨q, f⟩ => ⟨?_, f⟩, fun b vs q => (upd_ne fun e => ?_).trans q, fun b ob v q => (upd_ne fun e => ?_).trans q, fun b v q => (upd_ne fun e => ?_).trans q⟩
  · rcases q with q | ⟨o', q⟩
    · exact .inl ((upd_ne (ne b f)).trans q)
    · exact .inr ⟨o', (upd_ne (ne b f)).trans q⟩
  · rw [e, hx] at q; exact nt.1 vs (Option.some.inj q)
  · rw [e, hx] at q; exact nt.2.1 ob v (Option.some.inj q)
  · rw [e, hx] at q; exact nt.2.2 v (Option.some.inj q)
theorem Rel.pw {a : Addr} {o u : HO} (r : Rel K L ω) (ha : ω.B a) (hx : ω.H a = some u) (nt : (∀ ys, u ≠ .tup ys) ∧ (∀ ob ys, u ≠ .frz ob (.lst ys)) ∧ ∀ ys, u ≠ .xd ys) : Rel K L (ω.pw a o) where
  live := fun n u q => OR.m0 (a' := 0) (Ev0.pw ha hx nt) (r.live n u q) (upd_ne fun e => r.priv n u q (e ▸ ha))
  inj := r.inj
  priv := r.priv
  held := fun b z => by
    by_cases e : b = a
    · exact ⟨o, by rw [e]; exact upd_same⟩
    · obtain ⟨u, q⟩ := r.held b z
      exact ⟨u, (upd_ne e).trans q⟩
theorem Ev0.pwL {a : Addr} {o : HO} {xs : List V} (ha : ω.B a) (hx : ω.H a = some (.lst xs)) : Ev0 K ω (ω.pw a o) := Ev0.pw ha hx ⟨(fun _ z => nomatch z), (fun _ _ z => nomatch z), (fun _ z => nomatch z)⟩
theorem Rel.pwL {a : Addr} {o : HO} {xs : List V} (r : Rel K L ω) (ha : ω.B a) (hx : ω.H a = some (.lst xs)) : Rel K L (ω.pw a o) := Rel.pw r ha hx ⟨(fun _ z => nomatch z), (fun _ _ z => nomatch z), (fun _ z => nomatch z)⟩
theorem Ev0.pwD {a : Addr} {o : HO} {xs : List (Key × V)} (ha : ω.B a) (hx : ω.H a = some (.dK xs)) : Ev0 K ω (ω.pw a o) := Ev0.pw ha hx ⟨(fun _ z => nomatch z), (fun _ _ z => nomatch z), (fun _ z => nomatch z)⟩
theorem Rel.pwD {a : Addr} {o : HO} {xs : List (Key × V)} (r : Rel K L ω) (ha : ω.B a) (hx : ω.H a = some (.dK xs)) : Rel K L (ω.pw a o) := Rel.pw r ha hx ⟨(fun _ z => nomatch z), (fun _ _ z => nomatch z), (fun _ z => nomatch z)⟩
/-- a private list begins -/
def Wd.beg (ω : Wd) (a : Addr) (o : HO) : Wd := ⟨ω.S, ω.M, upd ω.H a o, fun b => ω.B b ∨ b = a⟩
theorem Ev0.beg {a : Addr} {o : HO} (hn : ω.H a = none) : Ev0 K ω (ω.beg a o) where
  len := Nat.le_refl _
  mp := fun _ _ => rfl
  lst := fun b vs q f => ⟨(upd_ne (ne_of_none q hn)).trans q, f.1, fun z => z.elim f.2 (ne_of_none q hn)⟩
  dic := fun b ws ⟨q, f⟩ => by
    have ne : b ≠ a := by
      rcases q with q | ⟨o', q⟩
      · exact ne_of_none q hn
      · exact ne_of_none q hn
    refine ⟨?_, f.1, fun z => z.elim f.2 ne⟩
    rcases q with q | ⟨o', q⟩
    · exact .inl ((upd_ne ne).trans q)
    · exact .inr ⟨o', (upd_ne ne).trans q⟩
  tup := fun b vs q => (upd_ne (ne_of_none q hn)).trans q
  lck := fun b ob v q => (upd_ne (ne_of_none q hn)).trans q
  xd := fun b v q => (upd_ne (ne_of_none q hn)).trans q
theorem Rel.beg {a : Addr} {o : HO} (r : Rel K L ω) (hn : ω.H a = none) : Rel K L (ω.beg a o) where
  live := fun n u q => OR.m0 (a' := 0) (Ev0.beg hn) (r.live n u q) (upd_ne (r.notM hn q))
  inj := r.inj
  priv := fun n u q z => z.elim (r.priv n u q) (r.notM hn q)
  held := fun b z => by
    by_cases e : b = a
    · exact ⟨o, by rw [e]; exact upd_same⟩
    · obtain ⟨u, q⟩ := r.held b (z.resolve_right e)
      exact ⟨u, (upd_ne e).trans q⟩
end
section
variable {K : PySem.W.Frag} {L : Lnk} {ω ω1 : Wd} {α β : Type} {J : Wd → β → Prop} {JX : Wd → Nat → List (Sg × D) → Prop}
/-- a step of a computation that no exception leaves, anchored elsewhere -/
theorem Rn.stepX {m : Re α} {f : α → Mi.St → Re β} {J' : Wd → α → Prop} {JX' : Wd → Nat → List (Sg × D) → Prop} (h : Rn K L (m.nox.bnd f) J JX ω1)
    (k : ∀ a S, Rn K L (f a S) J JX ω1 → ∀ ω', Ev K ω ω' → Rel K L ω' → ω'.S = S → J' ω' a) : Rn K L m J' JX' ω := by
  cases m with
  | ok a S => exact k a S h
  | exc c fs S => exact h.elim
  | stuck => exact h.elim
theorem Re.nox_bnd (m : Re α) (f : α → Mi.St → Re β) : (m.bnd f).nox = m.nox.bnd fun a S => (f a S).nox := by cases m <;> rfl
theorem Re.nox_nox (m : Re α) : m.nox.nox = m.nox := by cases m <;> rfl
end
section
variable {K : PySem.W.Frag} {C : Cn} {W W' : WX} {ω : Wd} {σ : L2.St} {H : Hp} {Q : VK}
/-- a clause's tests -/
def tTs (K : PySem.W.Frag) (C : Cn) (cs : List CE) : TT := fun σ H Q => ∃ ω e, ω.H = H ∧ Rel K C.L ω ∧ EnvR K C.L ω e σ ∧ Rn K C.L (evCs C.P C.F cs e ω.S).nox (fun ω' b => Q b ω'.H) noJX ω
theorem i_ts0 {Q : Bool → Hp → Prop} (h : tTs K C [] σ H Q) : tYes σ H Q := by
  obtain ⟨ω, e, rfl, r, er, h⟩ := h
  exact Rn.here (a := true) h r
theorem i_ts1 {c : CE} {Q : Bool → Hp → Prop} (h : tTs K C [c] σ H Q) : tT K C W c σ H Q := by
  obtain ⟨ω, e, rfl, r, er, h⟩ := h
  refine ⟨ω, e, rfl, r, er, ?_⟩
  have h : Rn K C.L ((tB (evE C.P C.F c e ω.S)).bnd fun b S1 => if b then evCs C.P C.F [] e S1 else .ok false S1).nox (fun ω' b => Q b ω'.H) noJX ω := h
  cases hm : tB (evE C.P C.F c e ω.S) with
  | ok b S =>
    rw [hm] at h
    cases b with
    | true => exact h
    | false => exact h
  | exc c fs S => rw [hm] at h; exact h.elim
  | stuck => rw [hm] at h; exact h.elim
theorem wipe_wipe (σ : L2.St) (vs : List Nat) : L2.wipe (L2.wipe σ vs) vs = L2.wipe σ vs := by
  apply List.ext_getElem?
  intro i
  by_cases hi : i < σ.length
  · rw [wipe_get (by rw [L2.wipe_length]; exact hi), wipe_get hi]
    split <;> rfl
  · rw [List.getElem?_eq_none (by rw [L2.wipe_length, L2.wipe_length]; omega), List.getElem?_eq_none (by rw [L2.wipe_length]; omega)]
/-- what a turn of a comprehension does -/
def lcTurn (C : Cn) (el : CE) (tg : CT) (cs : List CE) (own : List Nat) (e : Mi.Env) : D → M (Option D) := fun x S2 => ((asg C.P C.F tg x (Mi.wipe e own) S2).bnd fun e2 S3 => (evCs C.P C.F cs e2 S3).bnd fun b S4 =>
      if b then (evE C.P C.F el e2 S4).bnd fun y S5 => .ok (some y) S5 else .ok none S4).nox
theorem i_lc {live : Bool} {el : CE} {tg : CT} {it : CI} {cs : List CE} {own : List Nat} (hnh : C.L.hot = none) (hsub : ∀ i ∈ ctN tg, i ∈ own) (h : tE K C W (.lc live el tg it cs own) σ H Q) :
    tLc (tI K C W it) (tG K C tg) (tTs K C cs) (tE K C W' el) own σ H Q := by
  obtain ⟨ω, e, rfl, r, er, h⟩ := h
  refine ⟨ω, e, rfl, r, er, (Rn.bnd (show Rn K C.L ((evI C.P C.F it e ω.S).bnd fun items S1 => (turnsC (lcTurn C el tg cs own e) items TURNS 0 [] S1).bnd fun ds S6 => alloc live ds S6) _ _ ω from h)).imp fun ω1 f ev1 r1 h1 J yl D hD => ?_⟩
  have er1 := er.mono ev1
  refine ⟨fun i m H => ∃ ω2 acc vs, ω2.H = H ∧ Rel K C.L ω2 ∧ ω2.B = (fun b => ω1.B b ∨ b = D) ∧ H D = some (.lst vs) ∧ RVs K C.L ω2 acc vs ∧ acc.length + m ≤ TURNS ∧ Ev0 K ω1 ω2 ∧ (∀ a, ω1.B a → ω2.H a = ω1.H a) ∧
    Rn K C.L ((turnsC (lcTurn C el tg cs own e) f m i acc ω2.S).bnd fun ds S6 => alloc live ds S6) (fun ω' d => ∀ v, RV K C.L ω' d v → Q v ω'.H) (JXof K C.L W σ) ω1,
    ⟨TURNS, ω1.beg D (.lst []), [], [], rfl, Rel.beg r1 hD, rfl, upd_same, rfl, by simp, Ev0.beg hD, fun a ha => upd_ne fun z => r1.notB hD (z ▸ ha), h1⟩, ?_⟩
  rintro i m H2 ⟨ω2, acc, vs, rfl, r2, hB, hDv, rs, hm, ev2, pk, h2⟩
  have bD : ω2.B D := by rw [hB]; exact .inr rfl
  have sub : ∀ a, ω1.B a → ω2.B a := fun a ha => by rw [hB]; exact .inl ha
  have nB : ¬ ω1.B D := r1.notB hD
  cases m with
  | zero => exact h2.elim
  | succ m =>
    have yy := yl ω2 ev2 r2 i
    rw [turnsC] at h2
    cases hf : f ω2.S i with
    | none => rw [hf] at h2; exact h2.elim
    | some o =>
      rw [hf] at h2 yy
      cases o with
      | none =>
        refine .inl ⟨yy, ?_⟩
        -- the list is done
        cases live with
        | false =>
          have ev : Ev K ω1 (ω2.res ω1.B) := { toEv0 := ev2.trans (Ev0.res sub), pr := rfl, prH := pk }
          refine (h2 : ∀ ω', Ev K ω1 ω' → Rel K C.L ω' → ω'.S = ω2.S → ∀ v, RV K C.L ω' (.lst acc) v → Q v ω'.H) (ω2.res ω1.B) ev (Rel.res r2 sub) rfl _ ⟨D, vs, rfl, ⟨hDv, fun n u q z => r2.priv n u q (z ▸ bD), nB⟩, RVs.m0 (Ev0.res sub) acc rs⟩
        | true =>
          have ea : Ev0 K ω2 (ω2.adopt ω1.B D (.lst acc)) := Ev0.adopt sub bD
          have ev : Ev K ω1 (ω2.adopt ω1.B D (.lst acc)) := { toEv0 := ev2.trans ea, pr := rfl, prH := pk }
          refine (h2 : ∀ ω', Ev K ω1 ω' → Rel K C.L ω' → ω'.S = ω2.S ++ [some (.lst acc)] → ∀ v, RV K C.L ω' (.ref ω2.S.length) v → Q v ω'.H) _ ev (Rel.adopt r2 sub bD nB ⟨vs, hDv, RVs.m0 ea acc rs⟩) rfl _ ⟨by simp [Wd.adopt], ?_⟩
          show V.ref D = .ref (if ω2.S.length = ω2.S.length then D else _)
          rw [if_pos rfl]
      | some d =>
        obtain ⟨go, yld⟩ := yy
        refine .inr ⟨go, fun H' => ∃ ω3 acc' vs', ω3.H = H' ∧ Rel K C.L ω3 ∧ ω3.B = (fun b => ω1.B b ∨ b = D) ∧ H' D = some (.lst vs') ∧ RVs K C.L ω3 acc' vs' ∧ acc'.length + m ≤ TURNS ∧ Ev0 K ω1 ω3 ∧ (∀ a, ω1.B a → ω3.H a = ω1.H a) ∧
          Rn K C.L ((turnsC (lcTurn C el tg cs own e) f m (i + 1) acc' ω3.S).bnd fun ds S6 => alloc live ds S6) (fun ω' d => ∀ v, RV K C.L ω' d v → Q v ω'.H) (JXof K C.L W σ) ω1, fun H' q => ⟨m, Nat.lt_succ_self m, q⟩, fun x H' y => ?_⟩
        obtain ⟨ω3, e3, ev3, r3, s3, rx⟩ := yld x H' y
        subst e3
        dsimp only at h2
        rw [Re.assoc, ← s3, lcTurn, Re.nox_bnd] at h2
        rw [Re.assoc] at h2
        have er3 : EnvR K C.L ω3 (Mi.wipe e own) (L2.wipe σ own) := by
          have z : EnvR K C.L ω3 e σ := er1.m0 (ev2.trans ev3.toEv0)
          exact z.wipe hnh own
        refine ⟨ω3, Mi.wipe e own, d, rfl, r3, er3, rx, Rn.stepX h2 fun e4 S4 h4 ω4 ev4 r4 hs4 σ4 er4 of4 => ⟨(of4.wipe hsub).trans (wipe_wipe σ own), ?_⟩⟩
        subst hs4
        rw [Re.nox_bnd, Re.assoc] at h4
        -- the world behind the element, from ω2
        have fin : ∀ {ω5 : Wd}, Ev K ω4 ω5 → Ev K ω2 ω5 := fun ev5 => (ev3.trans ev4).trans ev5
        have kB : ∀ {ω5 : Wd}, Ev K ω2 ω5 → ω5.B = (fun b => ω1.B b ∨ b = D) := fun ev5 => ev5.pr.trans hB
        have kP : ∀ {ω5 : Wd}, Ev K ω2 ω5 → ∀ a, ω1.B a → ω5.H a = ω1.H a := fun ev5 a ha => (ev5.prH a (sub a ha)).trans (pk a ha)
        have kD : ∀ {ω5 : Wd}, Ev K ω2 ω5 → ω5.H D = some (.lst vs) := fun ev5 => (ev5.prH D bD).trans hDv
        refine ⟨ω4, e4, rfl, r4, er4, ?_⟩
        refine Rn.stepX (JX' := noJX) (m := (evCs C.P C.F cs e4 ω4.S).nox) (by rw [Re.nox_nox]; exact h4) fun b S5 h5 ω5 ev5 r5 hs5 => ?_
        subst hs5
        cases b with
        | false =>
          rw [if_neg Bool.false_ne_true] at h5 ⊢
          have ee := fin ev5
          exact ⟨ω5, acc, vs, rfl, r5, kB ee, kD ee, RVs.mono ee acc rs, by omega, ev2.trans ee.toEv0, kP ee, h5⟩
        | true =>
          rw [if_pos rfl] at h5 ⊢
          rw [Re.nox_bnd, Re.assoc] at h5
          refine ⟨ω5, e4, rfl, r5, er4.mono ev5, Rn.stepX h5 fun y S6 h6 ω6 ev6 r6 hs6 yv ry => ?_⟩
          subst hs6
          have ee := fin (ev5.trans ev6)
          have b6 : ω6.B D := by rw [kB ee]; exact .inr rfl
          have hl := rs.length
          refine ⟨vs, kD ee, by rw [hl, ← lim_line]; have : TURNS = LIM := rfl; omega, ω6.pw D (.lst (vs ++ [yv])), acc ++ [y], vs ++ [yv], rfl, Rel.pwL r6 b6 (kD ee), (show ω6.B = _ from kB ee), upd_same, ?_, by rw [List.length_append, List.length_singleton]; omega,
            (ev2.trans ee.toEv0).trans (Ev0.pwL b6 (kD ee)), fun a ha => ?_, h6⟩
          · exact RVs.append (RVs.m0 (ee.toEv0.trans (Ev0.pwL b6 (kD ee))) acc rs) ⟨yv, [], rfl, RV.m0 (Ev0.pwL b6 (kD ee)) y ry, rfl⟩
          · exact (upd_ne fun (z : a = D) => nB (z ▸ ha)).trans (kP ee a ha)
end
end Mi
end
section
set_option Elab.async false
set_option linter.all false
set_option maxRecDepth 100000
set_option maxHeartbeats 4000000
/-! Statements. -/
namespace Mi
open PySem PySem.Spec PyProof.Rows L2
section
variable {K : PySem.W.Frag} {L : Lnk} {W : WX} {ω ω' : Wd} {D D' : Ends} {α : Type}
/-- how a statement ends, from the world ω -/
def RnS (K : PySem.W.Frag) (L : Lnk) (W : WX) (r : RS) (D : Ends) (ω : Wd) : Prop := match r with
  | .nx e S => ∀ ω' σ', Ev K ω ω' → Rel K L ω' → ω'.S = S → EnvR K L ω' e σ' → D.nx σ' ω'.H
  | .bk e S => ∀ ω' σ', Ev K ω ω' → Rel K L ω' → ω'.S = S → EnvR K L ω' e σ' → D.bk σ' ω'.H
  | .ct e S => ∀ ω' σ', Ev K ω ω' → Rel K L ω' → ω'.S = S → EnvR K L ω' e σ' → D.ct σ' ω'.H
  | .rt d S => ∀ ω' v, Ev K ω ω' → Rel K L ω' → ω'.S = S → RV K L ω' d v → D.rt v ω'.H
  | .exc c fs e S => ∀ ω' σ', Ev K ω ω' → Rel K L ω' → ω'.S = S → EnvR K L ω' e σ' → JXof K L W σ' ω' c fs
  | .stuck => False
theorem RnS.to {r : RS} (ev : Ev K ω ω') (h : RnS K L W r D ω) : RnS K L W r D ω' := by
  cases r with
  | nx e S => exact fun ω2 σ2 e2 r2 q2 n2 => h ω2 σ2 (ev.trans e2) r2 q2 n2
  | bk e S => exact fun ω2 σ2 e2 r2 q2 n2 => h ω2 σ2 (ev.trans e2) r2 q2 n2
  | ct e S => exact fun ω2 σ2 e2 r2 q2 n2 => h ω2 σ2 (ev.trans e2) r2 q2 n2
  | rt d S => exact fun ω2 v e2 r2 q2 n2 => h ω2 v (ev.trans e2) r2 q2 n2
  | exc c fs e S => exact fun ω2 σ2 e2 r2 q2 n2 => h ω2 σ2 (ev.trans e2) r2 q2 n2
  | stuck => exact h
theorem RnS.toS {m : Re α} {e : Mi.Env} {f : α → Mi.St → RS} {σ : L2.St} (er : EnvR K L ω e σ) (h : RnS K L W (m.toS e f) D ω) : Rn K L m (fun ω1 a => RnS K L W (f a ω1.S) D ω1) (JXof K L W σ) ω := by
  cases m with
  | ok a S =>
    intro ω1 ev r1 q
    subst q
    exact RnS.to ev (show RnS K L W (f a ω1.S) D ω from h)
  | exc c fs S => exact fun ω1 ev r1 q => h ω1 σ ev r1 q (er.mono ev)
  | stuck => exact h
theorem RnS.toX {m : Re α} {e : Mi.Env} {f : α → Mi.St → RS} (h : RnS K L W (m.nox.toS e f) D ω) : Rn K L m (fun ω1 a => RnS K L W (f a ω1.S) D ω1) noJX ω := by
  cases m with
  | ok a S =>
    intro ω1 ev r1 q
    subst q
    exact RnS.to ev (show RnS K L W (f a ω1.S) D ω from h)
  | exc c fs S => exact h.elim
  | stuck => exact h.elim
end
section
variable {K : PySem.W.Frag} {C : Cn} {W : WX} {ω : Wd} {σ : L2.St} {H : Hp} {D : Ends}
def tS (K : PySem.W.Frag) (C : Cn) (W : WX) (s : CS) : TS := fun D σ H => ∃ ω e, ω.H = H ∧ Rel K C.L ω ∧ EnvR K C.L ω e σ ∧ RnS K C.L W (evS C.P C.F TURNS s e ω.S) D ω
def tSs (K : PySem.W.Frag) (C : Cn) (W : WX) (ss : List CS) : TS := fun D σ H => ∃ ω e, ω.H = H ∧ Rel K C.L ω ∧ EnvR K C.L ω e σ ∧ RnS K C.L W (evSs C.P C.F TURNS ss e ω.S) D ω
theorem i_nils (h : tSs K C W [] D σ H) : tNext D σ H := by
  obtain ⟨ω, e, rfl, r, er, h⟩ := h
  exact h ω σ (Ev.refl ω) r rfl er
theorem i_seqs {s : CS} {ss : List CS} (h : tSs K C W (s :: ss) D σ H) : tSeq (tS K C W s) (tSs K C W ss) D σ H := by
  obtain ⟨ω, e, rfl, r, er, h⟩ := h
  refine ⟨ω, e, rfl, r, er, ?_⟩
  simp only [evSs] at h
  cases hm : evS C.P C.F TURNS s e ω.S with
  | nx e1 S1 =>
    rw [hm] at h
    intro ω1 σ1 ev r1 q er1
    subst q
    exact ⟨ω1, e1, rfl, r1, er1, RnS.to ev h⟩
  | bk e1 S1 => rw [hm] at h; exact h
  | ct e1 S1 => rw [hm] at h; exact h
  | rt d S1 => rw [hm] at h; exact h
  | exc c fs e1 S1 => rw [hm] at h; exact h
  | stuck => rw [hm] at h; exact h
theorem i_exp {ca : CE} (h : tS K C W (.exp ca) D σ H) : tDrop (tE K C W ca) D σ H := by
  obtain ⟨ω, e, rfl, r, er, h⟩ := h
  simp only [evS] at h
  exact ⟨ω, e, rfl, r, er, (RnS.toS er h).imp fun ω1 d ev r1 h1 v rv => h1 ω1 σ (Ev.refl _) r1 rfl (er.mono ev)⟩
theorem i_ret {ca : CE} (h : tS K C W (.ret ca) D σ H) : tRet (tE K C W ca) D σ H := by
  obtain ⟨ω, e, rfl, r, er, h⟩ := h
  simp only [evS] at h
  exact ⟨ω, e, rfl, r, er, (RnS.toS er h).imp fun ω1 d ev r1 h1 v rv => h1 ω1 v (Ev.refl _) r1 rfl rv⟩
theorem i_asg {t : CT} {ca : CE} (h : tS K C W (.asg t ca) D σ H) : tAsg (tE K C W ca) (tG K C t) D σ H := by
  obtain ⟨ω, e, rfl, r, er, h⟩ := h
  simp only [evS] at h
  refine ⟨ω, e, rfl, r, er, (RnS.toS er h).imp fun ω1 d ev r1 h1 v rv => ?_⟩
  exact ⟨ω1, e, d, rfl, r1, er.mono ev, rv, (RnS.toX h1).imp fun ω2 e2 ev2 r2 h2 σ2 er2 _ => h2 ω2 σ2 (Ev.refl _) r2 rfl er2⟩
theorem i_ifs {c : CE} {a b : List CS} (h : tS K C W (.ite c a b) D σ H) : tIfS (tT K C W c) (tSs K C W a) (tSs K C W b) D σ H := by
  obtain ⟨ω, e, rfl, r, er, h⟩ := h
  simp only [evS] at h
  refine ⟨ω, e, rfl, r, er, (RnS.toS er h).imp fun ω1 k ev r1 h1 => ?_⟩
  cases k with
  | true => rw [if_pos rfl] at h1 ⊢; exact ⟨ω1, e, rfl, r1, er.mono ev, h1⟩
  | false => rw [if_neg Bool.false_ne_true] at h1 ⊢; exact ⟨ω1, e, rfl, r1, er.mono ev, h1⟩
theorem i_pass (h : tS K C W .pass D σ H) : tNext D σ H := by
  obtain ⟨ω, e, rfl, r, er, h⟩ := h
  exact h ω σ (Ev.refl ω) r rfl er
theorem i_brk (h : tS K C W .brk D σ H) : tBreak D σ H := by
  obtain ⟨ω, e, rfl, r, er, h⟩ := h
  exact h ω σ (Ev.refl ω) r rfl er
theorem i_cnt (h : tS K C W .cnt D σ H) : tCont D σ H := by
  obtain ⟨ω, e, rfl, r, er, h⟩ := h
  exact h ω σ (Ev.refl ω) r rfl er
theorem i_aug {i : Nat} {o : Bop} {f : Int → Int → Int} {ca : CE} (hf : (o = .add ∧ f = fun a b => a + b) ∨ (o = .sub ∧ f = fun a b => a - b)) (h : tS K C W (.aug i o ca) D σ H) : tAug i (tE K C W ca) (ipI f) D σ H := by
  obtain ⟨ω, e, rfl, r, er, h⟩ := h
  simp only [evS] at h
  cases hx : e[i]?.bind id with
  | none => rw [hx] at h; exact h.elim
  | some x =>
    rw [hx] at h
    have h3 : e[i]? = some (some x) := by
      cases q : e[i]? with
      | none => rw [q] at hx; cases hx
      | some o => rw [q] at hx; exact congrArg some hx
    obtain ⟨v, h4, h5⟩ := er.1.2 i x h3
    have h := (RnS.toS (σ := σ) er h).here r
    refine ⟨v, h4, ω, e, rfl, r, er, (RnS.toS er h).imp fun ω1 d ev r1 h1 u ru => ?_⟩
    have h6 := RV.mono ev x h5
    rcases hf with ⟨rfl, rfl⟩ | ⟨rfl, rfl⟩
    · split at h1
      · split at h1
        · cases h6
          cases ru
          exact ⟨_, _, rfl, rfl, h1 ω1 _ (Ev.refl _) r1 rfl ((er.mono ev).set rfl)⟩
        · exact h1.elim
      · contradiction
      · exact h1.elim
    · split at h1
      · contradiction
      · split at h1
        · cases h6
          cases ru
          exact ⟨_, _, rfl, rfl, h1 ω1 _ (Ev.refl _) r1 rfl ((er.mono ev).set rfl)⟩
        · exact h1.elim
      · exact h1.elim
theorem i_whl {c : CE} {b : List CS} (h : tS K C W (.whl c b) D σ H) : tWhile (tT K C W c) (tSs K C W b) D σ H := by
  obtain ⟨ω, e, rfl, r, er, h⟩ := h
  simp only [evS] at h
  refine ⟨fun m σ H => ∃ ω e, ω.H = H ∧ Rel K C.L ω ∧ EnvR K C.L ω e σ ∧ RnS K C.L W (turnsW (fun e2 S2 => Mi.tB (evE C.P C.F c e2 S2)) (fun e2 S2 => evSs C.P C.F TURNS b e2 S2) m e ω.S) D ω, ⟨TURNS, ω, e, rfl, r, er, h⟩, ?_⟩
  clear h er r
  rintro m σ H ⟨ω, e, rfl, r, er, h⟩
  cases m with
  | zero => exact h.elim
  | succ m =>
    rw [turnsW] at h
    refine ⟨ω, e, rfl, r, er, (RnS.toS er h).imp fun ω1 k ev r1 h1 => ?_⟩
    cases k with
    | false =>
      rw [if_neg Bool.false_ne_true] at h1 ⊢
      exact h1 ω1 σ (Ev.refl _) r1 rfl (er.mono ev)
    | true =>
      rw [if_pos rfl] at h1 ⊢
      refine ⟨_, fun σ' H' q => ⟨m, Nat.lt_succ_self m, q⟩, ω1, e, rfl, r1, er.mono ev, ?_⟩
      cases hm : evSs C.P C.F TURNS b e ω1.S with
      | nx e1 S1 =>
        rw [hm] at h1
        intro ω2 σ2 ev2 r2 q2 er2
        subst q2
        exact ⟨ω2, e1, rfl, r2, er2, RnS.to ev2 h1⟩
      | ct e1 S1 =>
        rw [hm] at h1
        intro ω2 σ2 ev2 r2 q2 er2
        subst q2
        exact ⟨ω2, e1, rfl, r2, er2, RnS.to ev2 h1⟩
      | bk e1 S1 => rw [hm] at h1; exact h1
      | rt d S1 => rw [hm] at h1; exact h1
      | exc c fs e1 S1 => rw [hm] at h1; exact h1
      | stuck => rw [hm] at h1; exact h1.elim
theorem i_for {t : CT} {it : CI} {b : List CS} (h : tS K C W (.for_ t it b) D σ H) : tFor (tI K C W it) (tG K C t) (tSs K C W b) D σ H := by
  obtain ⟨ω, e, rfl, r, er, h⟩ := h
  simp only [evS] at h
  refine ⟨ω, e, rfl, r, er, (RnS.toS er h).imp fun ω1 f ev1 r1 h1 J yl => ?_⟩
  refine ⟨fun i m σ H => ∃ ω2 e2, ω2.H = H ∧ Rel K C.L ω2 ∧ EnvR K C.L ω2 e2 σ ∧ Ev0 K ω1 ω2 ∧ RnS K C.L W (turnsF (fun x e2 S2 => (asg C.P C.F t x e2 S2).nox.toS e2 fun e3 S3 => evSs C.P C.F TURNS b e3 S3) f m i e2 ω2.S) D ω2,
    ⟨TURNS, ω1, e, rfl, r1, er.mono ev1, (Ev.refl ω1).toEv0, h1⟩, ?_⟩
  rintro i m σ2 H2 ⟨ω2, e2, rfl, r2, er2, ev2, h2⟩
  cases m with
  | zero => exact h2.elim
  | succ m =>
    have yy := yl ω2 ev2 r2 i
    rw [turnsF] at h2
    cases hf : f ω2.S i with
    | none => rw [hf] at h2; exact h2.elim
    | some o =>
      rw [hf] at h2 yy
      cases o with
      | none => exact .inl ⟨yy, h2 ω2 σ2 (Ev.refl _) r2 rfl er2⟩
      | some d =>
        obtain ⟨go, yld⟩ := yy
        refine .inr ⟨go, _, fun σ' H' q => ⟨m, Nat.lt_succ_self m, q⟩, fun x H' y => ?_⟩
        obtain ⟨ω3, e3, ev3, r3, s3, rx⟩ := yld x H' y
        subst e3
        refine ⟨ω3, e2, d, rfl, r3, er2.mono ev3, rx, ?_⟩
        have h3 := RnS.to ev3 h2
        rw [← s3] at h3
        dsimp only at h3
        cases hm : asg C.P C.F t d e2 ω3.S with
        | ok e4 S4 =>
          rw [hm] at h3
          intro ω4 ev4 r4 q4 σ4 er4 _
          subst q4
          have h4 := RnS.to ev4 h3
          refine ⟨ω4, e4, rfl, r4, er4, ?_⟩
          have ee := ev2.trans (ev3.trans ev4).toEv0
          simp only [Re.nox, Re.toS] at h4
          cases hb : evSs C.P C.F TURNS b e4 ω4.S with
          | nx e5 S5 =>
            rw [hb] at h4
            intro ω5 σ5 ev5 r5 q5 er5
            subst q5
            exact ⟨ω5, e5, rfl, r5, er5, ee.trans ev5.toEv0, RnS.to ev5 h4⟩
          | ct e5 S5 =>
            rw [hb] at h4
            intro ω5 σ5 ev5 r5 q5 er5
            subst q5
            exact ⟨ω5, e5, rfl, r5, er5, ee.trans ev5.toEv0, RnS.to ev5 h4⟩
          | bk e5 S5 => rw [hb] at h4; exact h4
          | rt d5 S5 => rw [hb] at h4; exact h4
          | exc c fs e5 S5 => rw [hb] at h4; exact h4
          | stuck => rw [hb] at h4; exact h4.elim
        | exc c fs S => rw [hm] at h3; exact h3.elim
        | stuck => rw [hm] at h3; exact h3.elim
end
end Mi
end
section
set_option Elab.async false
set_option linter.all false
set_option maxRecDepth 100000
set_option maxHeartbeats 4000000
/-! Names of the module, calls, methods, isinstance. -/
namespace Mi
open PySem PySem.Spec PyProof.Rows L2
/-- what a module's name means -/
def glD (P : Pg) (g : Nat) : D := match P.con g with
  | some d => d
  | none => .glo g
section
variable {X : Cx} {C : Cn} {W : WX} {x : Str} {p pos apos : Pos}
theorem s_glo {g : Nat} {u : Value} {v : V} (hg : Gl X x) (hm : X.mg x = some u) (r : RelV v u) (hv : ∀ ω, RV X.K C.L ω (glD C.P g) v) (hd : (x == ("__debug__" : Str)) = false) : PE X (.Name x pos) (tE X.K C W (.glo g)) := by
  refine tE.of (pe_glob hg hm r hd) fun ω e σ Q r er h => ?_
  exact Rn.here (show Rn X.K C.L (.ok (glD C.P g) ω.S) _ _ ω from h) r _ (hv ω)
/-- a def of the module, as it is called -/
structure FnE (X : Cx) (C : Cn) (g np : Nat) (f : Addr) : Prop where
  keep : PySem.W.keepIn X.K (.ref f) = true
  len : ∀ ds S, ds.length ≠ np → C.F g ds S = .stuck
  run : ∃ k fd ps, Room k X.A ∧ ps.length = np ∧ Binds X.K fd ps [] ∧ FnG X.prog X.w X.K X.mg X.base k f fd ps (fun vs H Q E => ∃ ω ds, ω.H = H ∧ Rel X.K C.L ω ∧ RVs X.K C.L ω ds vs ∧
    Rn X.K C.L (C.F g ds ω.S) (fun ω' d => ∀ v, RV X.K C.L ω' d v → Q v ω'.H) (fun ω' c fs => ∀ dx, XR X.K C.L ω' fs dx → E (.ref (C.L.ga c)) dx ω'.H) ω)
theorem FnE.go {g np : Nat} {f : Addr} (F : FnE X C g np f) (gu : X.A.guards = some []) (tk : Takes X W) {pins : List (Addr × Obj)} {σ : L2.St} {H : Hp} {s : Shared} {Q : VK} {us : List Value} {vs : List V} (I : L2.Inv X pins σ H s) (r : Vals vs us) {ω : Wd} {ds : List D}
    (hH : ω.H = H) (rl : Rel X.K C.L ω) (rs : RVs X.K C.L ω ds vs) (h : Rn X.K C.L (C.F g ds ω.S) (fun ω' d => ∀ v, RV X.K C.L ω' d v → Q v ω'.H) (JXof X.K C.L W σ) ω) : wpAny (model X.prog X.w) X.A (call (.ref f) us) (EP X pins σ Q) X.xe s := by
  obtain ⟨k, fd, ps, hr, hl, hb, G⟩ := F.run
  exact run_G G hr gu hb tk I r ⟨ω, ds, hH, rl, rs, h⟩
theorem s_call {g np : Nat} {f : Addr} {e : Expr} {es : List Expr} {cs : List CE} (F : FnE X C g np f) (gu : X.A.guards = some []) (tk : Takes X W) (hg : Gl X x) (hm : X.mg x = some (.ref f)) (ha : PA X (e :: es) (tA X.K C W cs))
    (hdb : (x == ("__debug__" : Str)) = false) (he : starEach (e :: es) X.env = (false, eval e X.env) :: starEach es X.env) (hpl : (backTo pos (starEach es X.env)).any (·.1) = false) : PE X (.Call (.Name x p) (e :: es) [] pos) (tE X.K C W (.call g cs)) := by
  refine ⟨fun pins s σ H Q I ⟨ω, ev, hH, r, er, h⟩ => ?_⟩
  subst hH
  refine wpAny_Call_Name_kw (ld_glob I hg hm (PySem.W.callWith_K (h₀ := X.base) I.ok.mod.kin F.keep (thn (ha.run pos pins s σ _ _ I (tA.step (Q' := fun vs H' => ∃ ω1 ds, ω1.H = H' ∧ Rel X.K C.L ω1 ∧ RVs X.K C.L ω1 ds vs ∧
    Rn X.K C.L (C.F g ds ω1.S) (fun ω' d => ∀ v, RV X.K C.L ω' d v → Q v ω'.H) (JXof X.K C.L W σ) ω1) r er h fun ω1 ds vs e1 r1 q1 h1 => ⟨ω1, ds, rfl, r1, q1, h1⟩)) fun us s1 ⟨vs, H1, I1, r1, ω1, ds, hH1, rl1, rs1, h1⟩ => ⟨I1.kIn, ?_⟩) he hpl) hdb)
  show wpAny _ _ (call (.ref f) us) _ _ _
  exact F.go gu tk I1 r1 hH1 rl1 rs1 h1
theorem s_call0 {g np : Nat} {f : Addr} (F : FnE X C g np f) (gu : X.A.guards = some []) (tk : Takes X W) (hg : Gl X x) (hm : X.mg x = some (.ref f)) (hdb : (x == ("__debug__" : Str)) = false) : PE X (.Call (.Name x p) [] [] pos) (tE X.K C W (.call g [])) := by
  refine ⟨fun pins s σ H Q I ⟨ω, ev, hH, r, er, h⟩ => ?_⟩
  subst hH
  refine wpAny_Call_Name_kw (ld_glob I hg hm (PySem.W.callWith_K0 I.kIn F.keep ?_) hdb)
  show wpAny _ _ (call (.ref f) []) _ _ _
  exact F.go gu tk I .nil rfl r (ds := []) rfl h
/-- a call of what a local holds -/
theorem s_cav {i : Nat} {e : Expr} {es : List Expr} {cs : List CE} (hN : X.N[i]? = some x) (hv : Vis X.env.scope x) (hF : ∀ g, (C.P.fn g).isSome = true → ∃ np, FnE X C g np (C.L.ga g)) (gu : X.A.guards = some []) (tk : Takes X W) (ha : PA X (e :: es) (tA X.K C W cs))
    (hdb : (x == ("__debug__" : Str)) = false) (hcd : (x == ("__classdict__" : Str)) = false) (he : starEach (e :: es) X.env = (false, eval e X.env) :: starEach es X.env) (hpl : (backTo pos (starEach es X.env)).any (·.1) = false) :
    PE X (.Call (.Name x p) (e :: es) [] pos) (tE X.K C W (.cav i cs)) := by
  refine ⟨fun pins s σ H Q I ⟨ω, ev, hH, r, er, h⟩ => ?_⟩
  subst hH
  have h : Rn X.K C.L ((lift (ev[i]?.bind id) ω.S).bnd fun f S1 => (match f with
    | .glo g => if (C.P.fn g).isSome then (evEs C.P C.F cs ev S1).bnd fun xs S2 => C.F g xs S2 else .stuck
    | _ => .stuck)) (fun ω' d => ∀ v, RV X.K C.L ω' d v → Q v ω'.H) (JXof X.K C.L W σ) ω := h
  cases hx : ev[i]?.bind id with
  | none => rw [hx] at h; exact h.elim
  | some d =>
    rw [hx] at h
    have h3 : ev[i]? = some (some d) := by
      cases q : ev[i]? with
      | none => rw [q] at hx; cases hx
      | some o => rw [q] at hx; exact congrArg some hx
    obtain ⟨v, h4, h5⟩ := er.1.2 i d h3
    have hh : Rn X.K C.L (match d with
      | .glo g => if (C.P.fn g).isSome then (evEs C.P C.F cs ev ω.S).bnd fun xs S2 => C.F g xs S2 else .stuck
      | _ => .stuck) (fun ω' d => ∀ v, RV X.K C.L ω' d v → Q v ω'.H) (JXof X.K C.L W σ) ω := h
    clear h hx
    split at hh
    · rename_i g
      split at hh
      · rename_i hg
        obtain ⟨np, F⟩ := hF g hg
        have h5 : v = .ref (C.L.ga g) := h5
        subst h5
        refine wpAny_Call_Name_kw (thn ((pe_var (pos := p) hN hv hdb hcd).run pins s σ ω.H (fun v H' => v = .ref (C.L.ga g) ∧ H' = ω.H) I ⟨_, h4, rfl, rfl⟩) fun u s1 ⟨v1, H1, I1, r1, e1, e2⟩ => ?_)
        subst e1 e2
        obtain rfl : u = Value.ref (C.L.ga g) := r1
        refine PySem.W.callWith_K (h₀ := X.base) I.ok.mod.kin F.keep (thn (ha.run pos pins s1 σ _ _ I1 (tA.step (Q' := fun vs H' => ∃ ω1 ds, ω1.H = H' ∧ Rel X.K C.L ω1 ∧ RVs X.K C.L ω1 ds vs ∧
          Rn X.K C.L (C.F g ds ω1.S) (fun ω' d => ∀ v, RV X.K C.L ω' d v → Q v ω'.H) (JXof X.K C.L W σ) ω1) r er hh fun ω1 ds vs e1 r1 q1 h1 => ⟨ω1, ds, rfl, r1, q1, h1⟩)) fun us s2 ⟨vs, H2, I2, r2, ω1, ds, hH1, rl1, rs1, h1⟩ => ⟨I2.kIn, ?_⟩) he hpl
        show wpAny _ _ (call (.ref (C.L.ga g)) us) _ _ _
        exact F.go gu tk I2 r2 hH1 rl1 rs1 h1
      · exact hh.elim
    · exact hh.elim
/-! ### built-ins by name -/
/-- what each is called -/
def biN : Bi → String
  | .len => "len" | .abs => "abs" | .min => "min" | .max => "max" | .rep => "repr" | .str => "str" | .int => "int" | .list => "list" | .tup => "tuple" | .dict => "dict" | .sum => "sum" | .all => "all" | .any => "any" | .divmod => "divmod"
theorem biN_boot (b : Bi) : bootBuiltins (Str.ofString (biN b)) = some (biV b) := by cases b <;> decide +kernel
theorem biN_ne (b : Bi) : Str.ofString (biN b) ≠ "__name__" ∧ (Str.ofString (biN b) == ("__debug__" : Str)) = false := by cases b <;> decide +kernel
theorem biV_cases (b : Bi) : (∃ id, biV b = .builtin id) ∨ ∃ T, biV b = .type T := by cases b <;> first | exact .inl ⟨_, rfl⟩ | exact .inr ⟨_, rfl⟩
theorem i_bi {b : Bi} {cs : List CE} {σ : L2.St} {H : Hp} {Q : VK} (h : tE X.K C W (.bi b cs) σ H Q) : tCB (rVB X.K C.L fun S => biOp S b) (tA X.K C W cs) σ H Q := by
  obtain ⟨ω, e, rfl, r, er, h⟩ := h
  refine tA.step r er h fun ω1 ds vs e1 r1 q1 h1 => ?_
  obtain ⟨d, hd, h2⟩ := Rn.lift h1
  exact ⟨ω1, ds, d, rfl, r1, q1, hd, fun ω' v ev re es rv => h2 ω' ev re es v rv⟩
theorem s_bi {b : Bi} {e : Expr} {es : List Expr} {cs : List CE} (hb : CallB X C.L b) (hx : x = Str.ofString (biN b)) (hg : Gl X x) (hm : X.mg x = none) (ha : PA X (e :: es) (tA X.K C W cs)) (he : starEach (e :: es) X.env = (false, eval e X.env) :: starEach es X.env)
    (hpl : (backTo pos (starEach es X.env)).any (·.1) = false) : PE X (.Call (.Name x p) (e :: es) [] pos) (tE X.K C W (.bi b cs)) := by
  subst hx
  obtain ⟨h1, h2⟩ := biN_ne b
  have h3 := biN_boot b
  unfold CallB at hb
  rcases biV_cases b with ⟨id, e1⟩ | ⟨T, e1⟩
  · rw [e1] at h3 hb
    exact tE.imp (pe_callB hb hg hm h3 ha h1 h2 he hpl) fun σ H Q => i_bi
  · rw [e1] at h3 hb
    exact tE.imp (pe_callTy hb hg hm h3 ha h1 h2 he hpl) fun σ H Q => i_bi
/-! ### isinstance -/
theorem btOk_boot {n : String} (h : btOk n = true) : bootBuiltins (Str.ofString n) = some (.type n) ∧ Str.ofString n ≠ "__name__" ∧ (Str.ofString n == ("__debug__" : Str)) = false := by
  rcases btOk_cases h with rfl | rfl | rfl | rfl | rfl | rfl <;> decide +kernel
theorem s_isi {n : String} {a : Expr} {ca : CE} {p2 : Pos} {y : Str} (hn : btOk n = true) (hy : y = Str.ofString n) (hx : x = Str.ofString "isinstance") (hg : Gl X x) (hm : X.mg x = none) (hgy : Gl X y) (hmy : X.mg y = none) (ha : PE X a (tE X.K C W ca))
    (he : starEach [a, .Name y p2] X.env = (false, eval a X.env) :: starEach [.Name y p2] X.env) : PE X (.Call (.Name x p) [a, .Name y p2] [] pos) (tE X.K C W (.isi ca [.bt n])) := by
  subst hy hx
  obtain ⟨h1, h2, h3⟩ := btOk_boot hn
  have hz : PE X (.Name (Str.ofString n) p2) (tC (.ty n)) := pe_bltn hgy hmy h1 rfl h2 h3
  refine tE.imp (pe_callB (id := "isinstance") call_isi hg hm (by decide +kernel) (pa_cons ha (pa_cons hz pa_nil) he) (by decide +kernel) (by decide +kernel) he rfl) fun σ H Q h => ?_
  obtain ⟨ω, e, rfl, r, er, h⟩ := h
  refine tE.step r er h fun ω1 d1 v1 e1 r1 q1 h1 => ?_
  obtain ⟨d, hd, h2⟩ := Rn.lift h1
  have hd : (isTs C.P ω1.S d1 [.bt n]).map D.bl = some d := hd
  cases hb : isT C.P ω1.S d1 (.bt n) with
  | none => simp only [isTs, hb] at hd; cases hd
  | some b =>
    have hd2 : d = .bl b := by
      simp only [isTs, hb] at hd
      cases b <;> (cases hd; rfl)
    subst hd2
    obtain ⟨t, ty, hk⟩ := isi_R r1 hb q1
    exact ⟨v1, .ty n, _, .type n, b, rfl, .ty n, ty, hk, h2.here r1 _ rfl⟩
end
end Mi
end
section
set_option Elab.async false
set_option linter.all false
set_option maxRecDepth 100000
set_option maxHeartbeats 4000000
/-! Methods of built-in types, dicts. -/
namespace Mi
open PySem PySem.Spec PyProof.Rows L2
section
variable {X : Cx} {C : Cn} {L : Lnk} {W : WX} {x : Str} {p pos apos cpos : Pos} {ω : Wd}
/-- a method, by values -/
def rMt (K : PySem.W.Frag) (L : Lnk) (m : Mt) : V → List V → Hp → VK → Prop := fun x xs H Q => ∃ ω o ds d S3, ω.H = H ∧ Rel K L ω ∧ RV K L ω o x ∧ RVs K L ω ds xs ∧ mtOp ω.S o m ds = some (d, S3) ∧
  ∀ ω' v, Ev K ω ω' → Rel K L ω' → ω'.S = S3 → RV K L ω' d v → Q v ω'.H
theorem inv_append {S S3 : Mi.St} {o d : D} {ds : List D} (h : mtOp S o .append ds = some (d, S3)) : ∃ n y es, o = .ref n ∧ ds = [y] ∧ S[n]? = some (some (.lst es)) ∧ es.length < LIM ∧ d = .non ∧ S3 = S.set n (some (.lst (es ++ [y]))) := by
  unfold mtOp at h
  split at h <;> try (first | contradiction | (cases h; done))
  split at h
  · split at h
    · cases h; exact ⟨_, _, _, rfl, rfl, ‹_›, ‹_›, rfl, rfl⟩
    · cases h
  · cases h
theorem m_append : MtR X "list.append" (rMt X.K L .append) := by
  intro pins s σ H x xs v us Q I rx rs ⟨ω, o, ds, d, S3, hH, r, ro, rd, hm, k⟩
  subst hH
  obtain ⟨n, y, es, rfl, rfl, hds, hl, rfl, rfl⟩ := inv_append hm
  obtain ⟨hn, rfl⟩ := ro
  obtain ⟨u, rfl, ry⟩ := rvs1 rd
  obtain ⟨vs, h1, rvs⟩ := r.live _ _ hds
  have ev : Ev X.K ω (ω.put n (.lst (vs ++ [u])) (.lst (es ++ [y]))) := Ev.put r hds
  refine mt_append pins s σ _ _ _ v us Q I rx rs ⟨_, vs, u, rfl, rfl, h1, by rw [rvs.length, ← lim_line]; exact hl, ?_⟩
  exact k _ .non ev (Rel.put r hds ⟨_, upd_same, RVs.append (RVs.mono ev es rvs) ⟨u, [], rfl, RV.mono ev y ry, rfl⟩⟩) rfl rfl
theorem inv_extend {S S3 : Mi.St} {o d : D} {ds : List D} (h : mtOp S o .extend ds = some (d, S3)) : ∃ n y es zs, o = .ref n ∧ ds = [y] ∧ S[n]? = some (some (.lst es)) ∧ asM S y = some zs ∧ es.length + zs.length ≤ LIM ∧ d = .non ∧ S3 = S.set n (some (.lst (es ++ zs))) := by
  unfold mtOp at h
  split at h <;> try (first | contradiction | (cases h; done))
  split at h
  · split at h
    · cases h; exact ⟨_, _, _, _, rfl, rfl, ‹_›, ‹_›, ‹_›, rfl, rfl⟩
    · cases h
  · cases h
theorem m_extend : MtR X "list.extend" (rMt X.K L .extend) := by
  intro pins s σ H x xs v us Q I rx rs ⟨ω, o, ds, d, S3, hH, r, ro, rd, hm, k⟩
  subst hH
  obtain ⟨n, y, es, zs, rfl, rfl, hds, hy, hl, rfl, rfl⟩ := inv_extend hm
  obtain ⟨hn, rfl⟩ := ro
  obtain ⟨u, rfl, ry⟩ := rvs1 rd
  obtain ⟨vs, h1, rvs⟩ := r.live _ _ hds
  obtain ⟨b, ws, rfl, h2, rws⟩ := asM_R r hy ry
  have ev : Ev X.K ω (ω.put n (.lst (vs ++ ws)) (.lst (es ++ zs))) := Ev.put r hds
  refine mt_extend pins s σ _ _ _ v us Q I rx rs ⟨_, b, vs, ws, rfl, rfl, h1, h2, by rw [rvs.length, rws.length, ← lim_line]; exact hl, ?_⟩
  exact k _ .non ev (Rel.put r hds ⟨_, upd_same, RVs.append (RVs.mono ev es rvs) (RVs.mono ev zs rws)⟩) rfl rfl
theorem RVs.dropLast {K : PySem.W.Frag} {ds : List D} {vs : List V} (h : RVs K L ω ds vs) : RVs K L ω ds.dropLast vs.dropLast := by
  rw [List.dropLast_eq_take, List.dropLast_eq_take, h.length]
  exact h.take _
theorem inv_pop {S S3 : Mi.St} {o d : D} {ds : List D} (h : mtOp S o .pop ds = some (d, S3)) : ∃ n es, o = .ref n ∧ ds = [] ∧ S[n]? = some (some (.lst es)) ∧ es.getLast? = some d ∧ S3 = S.set n (some (.lst es.dropLast)) := by
  unfold mtOp at h
  split at h <;> try (first | contradiction | (cases h; done))
  split at h
  · rename_i es hes
    cases hg : es.getLast? with
    | none => rw [hg] at h; cases h
    | some y => rw [hg] at h; cases h; exact ⟨_, _, rfl, rfl, ‹_›, hg, rfl⟩
  · cases h
theorem m_pop : MtR X "list.pop" (rMt X.K L .pop) := by
  intro pins s σ H x xs v us Q I rx rs ⟨ω, o, ds, d, S3, hH, r, ro, rd, hm, k⟩
  subst hH
  obtain ⟨n, es, rfl, rfl, hds, hg, rfl⟩ := inv_pop hm
  obtain ⟨hn, rfl⟩ := ro
  cases rd
  obtain ⟨vs, h1, rvs⟩ := r.live _ _ hds
  have hl : es[es.length - 1]? = some d := by rw [← hg, List.getLast?_eq_getElem?]
  obtain ⟨u, hu, ru⟩ := rvs.get hl
  have ev : Ev X.K ω (ω.put n (.lst vs.dropLast) (.lst es.dropLast)) := Ev.put r hds
  refine mt_pop pins s σ _ _ _ v us Q I rx rs ⟨_, vs, u, rfl, rfl, h1, by rw [rvs.length]; exact hu, ?_⟩
  exact k _ u ev (Rel.put r hds ⟨_, upd_same, RVs.dropLast (RVs.mono ev es rvs)⟩) rfl (RV.mono ev d ru)
theorem inv_join {S S3 : Mi.St} {o d : D} {ds : List D} (h : mtOp S o .join ds = some (d, S3)) : ∃ sep a es xs, o = .str sep ∧ ds = [a] ∧ asL S a = some es ∧ strsOf es = some xs ∧ (joinSg sep xs).length + sep.length ≤ LIM ∧ d = .str (joinSg sep xs) ∧ S3 = S := by
  have key : ∀ {sep : Sg} {a : D}, ((asL S a).bind fun ds => (strsOf ds).bind fun xs => if (joinSg sep xs).length + sep.length ≤ LIM then some (D.str (joinSg sep xs), S) else none) = some (d, S3) →
      ∃ es xs, asL S a = some es ∧ strsOf es = some xs ∧ (joinSg sep xs).length + sep.length ≤ LIM ∧ d = .str (joinSg sep xs) ∧ S3 = S := by
    intro sep a h
    cases e1 : asL S a with
    | none => rw [e1] at h; cases h
    | some es =>
      rw [e1] at h
      simp only [Option.bind_some] at h
      cases e2 : strsOf es with
      | none => rw [e2] at h; cases h
      | some xs =>
        rw [e2] at h
        simp only [Option.bind_some] at h
        split at h
        · cases h; exact ⟨_, _, rfl, e2, ‹_›, rfl, rfl⟩
        · cases h
  unfold mtOp at h
  split at h <;> try (first | contradiction | (cases h; done))
  obtain ⟨es, xs, q⟩ := key h
  exact ⟨_, _, es, xs, rfl, rfl, q⟩
theorem inv_get {S S3 : Mi.St} {o d : D} {ds : List D} (h : mtOp S o .get ds = some (d, S3)) : ∃ k kvs, ds = [k] ∧ dOf S o = some kvs ∧ keyD k = true ∧ d = (getD kvs k).getD .non ∧ S3 = S := by
  have key : ∀ {o k : D}, ((dOf S o).bind fun kvs => if keyD k then some ((getD kvs k).getD D.non, S) else none) = some (d, S3) → ∃ kvs, dOf S o = some kvs ∧ keyD k = true ∧ d = (getD kvs k).getD .non ∧ S3 = S := by
    intro o k h
    cases e1 : dOf S o with
    | none => rw [e1] at h; cases h
    | some kvs =>
      rw [e1] at h
      simp only [Option.bind_some] at h
      split at h
      · cases h; exact ⟨_, rfl, ‹_›, rfl, rfl⟩
      · cases h
  unfold mtOp at h
  split at h <;> try (first | contradiction | (cases h; done))
  obtain ⟨kvs, q⟩ := key h
  exact ⟨_, kvs, rfl, q⟩
theorem inv_get2 {S S3 : Mi.St} {o d : D} {ds : List D} (h : mtOp S o .get2 ds = some (d, S3)) : ∃ k x kvs, ds = [k, x] ∧ dOf S o = some kvs ∧ keyD k = true ∧ d = (getD kvs k).getD x ∧ S3 = S := by
  have key : ∀ {o k x : D}, ((dOf S o).bind fun kvs => if keyD k then some ((getD kvs k).getD x, S) else none) = some (d, S3) → ∃ kvs, dOf S o = some kvs ∧ keyD k = true ∧ d = (getD kvs k).getD x ∧ S3 = S := by
    intro o k x h
    cases e1 : dOf S o with
    | none => rw [e1] at h; cases h
    | some kvs =>
      rw [e1] at h
      simp only [Option.bind_some] at h
      split at h
      · cases h; exact ⟨_, rfl, ‹_›, rfl, rfl⟩
      · cases h
  unfold mtOp at h
  split at h <;> try (first | contradiction | (cases h; done))
  obtain ⟨kvs, q⟩ := key h
  exact ⟨_, _, kvs, rfl, q⟩
theorem dOf_R {K : PySem.W.Frag} (r : Rel K L ω) {o : D} {v : V} {kvs : List (D × D)} (h : dOf ω.S o = some kvs) (rv : RV K L ω o v) : ∃ a ws, v = .ref a ∧ Rd ω.H a (.dK ws) ∧ RVk K L ω kvs ws := by
  unfold dOf at h
  split at h
  · cases h
    obtain ⟨a, ws, rfl, hd, rk⟩ := rv
    exact ⟨a, ws, rfl, dfrz_R hd, rk⟩
  · split at h
    · cases h
      obtain ⟨ws, h1, rk⟩ := dlive_R r ‹_›
      exact ⟨_, ws, rv.2, h1, rk⟩
    · cases h
  · cases h
/-- what a call of a method comes to -/
theorem i_met {m : Mt} {T : String} {co : CE} {cs : List CE} {σ : L2.St} {H : Hp} {Q : VK} (hT : ∀ ω o v, Rel X.K C.L ω → RV X.K C.L ω o v → mtPre ω.S m o = true → tyV X.K T v ω.H) (h : tE X.K C W (.met co m cs) σ H Q) :
    tBM X.K T (rMt X.K C.L m) (tE X.K C W co) (tA X.K C W cs) σ H Q := by
  obtain ⟨ω, e, rfl, r, er, h⟩ := h
  refine tE.step r er h fun ω1 d1 v1 e1 r1 q1 h1 => ?_
  split at h1
  · rename_i hp
    refine ⟨hT ω1 d1 v1 r1 q1 hp, tA.step r1 (er.mono e1) h1 fun ω2 ds vs e2 r2 q2 h2 => ?_⟩
    split at h2
    · rename_i d S3 hm
      exact ⟨ω2, d1, ds, d, S3, rfl, r2, RV.mono e2 d1 q1, q2, hm, fun ω' v ev re es rv => h2 ω' ev re es v rv⟩
    · exact h2.elim
  · exact h1.elim
theorem i_met0 {m : Mt} {T : String} {co : CE} {σ : L2.St} {H : Hp} {Q : VK} (hT : ∀ ω o v, Rel X.K C.L ω → RV X.K C.L ω o v → mtPre ω.S m o = true → tyV X.K T v ω.H) (h : tE X.K C W (.met co m []) σ H Q) :
    tBM0 X.K T (rMt X.K C.L m) (tE X.K C W co) σ H Q := by
  obtain ⟨ω, e, rfl, r, er, h⟩ := h
  refine tE.step r er h fun ω1 d1 v1 e1 r1 q1 h1 => ?_
  split at h1
  · rename_i hp
    refine ⟨hT ω1 d1 v1 r1 q1 hp, ?_⟩
    have h2 : Rn X.K C.L (match mtOp ω1.S d1 m [] with
      | some (d, S3) => .ok d S3
      | none => .stuck) (fun ω' d => ∀ v, RV X.K C.L ω' d v → Q v ω'.H) (JXof X.K C.L W σ) ω1 := h1
    split at h2
    · rename_i d S3 hm
      exact ⟨ω1, d1, [], d, S3, rfl, r1, q1, rfl, hm, fun ω' v ev re es rv => h2 ω' ev re es v rv⟩
    · exact h2.elim
  · exact h1.elim
theorem ty_lst {m : Mt} (hm : m = .append ∨ m = .extend ∨ m = .pop) : ∀ ω o v, Rel X.K C.L ω → RV X.K C.L ω o v → mtPre ω.S m o = true → tyV X.K "list" v ω.H := by
  intro ω o v r ro hp
  have ha : (asM ω.S o).isSome = true := by rcases hm with rfl | rfl | rfl <;> exact hp
  cases e : asM ω.S o with
  | none => rw [e] at ha; cases ha
  | some ds =>
    obtain ⟨a, vs, rfl, h1, _⟩ := asM_R r e ro
    exact .inl ⟨rfl, vs, .of h1⟩
theorem ty_str : ∀ ω o v, Rel X.K C.L ω → RV X.K C.L ω o v → mtPre ω.S .join o = true → tyV X.K "str" v ω.H := by
  intro ω o v r ro hp
  cases o with
  | str z => obtain ⟨rfl, _⟩ := ro; rfl
  | _ => exact absurd hp (by simp [mtPre])
theorem joinSg_cons (sep : Sg) : ∀ (r : List Sg) (x : Sg), joinSg sep (x :: r) = x ++ r.flatMap fun y => sep ++ y
  | [], x => by simp [joinSg]
  | y :: r, x => by rw [joinSg, joinSg_cons sep r y]; simp
theorem fold_glue (sep : Sg) : ∀ (r : List Sg) (a : Sg), (r.map toStr).foldl (fun acc p => acc ++ (toStr sep).cps ++ p.cps) a.toArray = (a ++ r.flatMap fun y => sep ++ y).toArray
  | [], a => by simp
  | y :: r, a => by
    have e : a.toArray ++ (toStr sep).cps ++ (toStr y).cps = (a ++ sep ++ y).toArray := by simp [toStr]
    rw [List.map_cons, List.foldl_cons, e, fold_glue sep r]
    simp
theorem join_glued (sep : Sg) (xs : List Sg) : Txt.join (toStr sep) (xs.map toStr) = toStr (joinSg sep xs) := by
  show Builtin.Str.glued _ _ = _
  unfold Builtin.Str.glued
  cases xs with
  | nil => rfl
  | cons x r =>
    rw [joinSg_cons]
    show (⟨(r.map toStr).foldl (fun acc p => acc ++ (toStr sep).cps ++ p.cps) x.toArray⟩ : Str) = _
    rw [fold_glue]
    rfl
theorem join_len (sep : Sg) : ∀ r : List Sg, (r.flatMap fun y => sep ++ y).length = (r.map (·.length)).sum + r.length * sep.length
  | [] => by simp
  | y :: r => by
    rw [List.flatMap_cons, List.length_append, List.length_append, join_len sep r, List.map_cons, List.sum_cons, List.length_cons, Nat.add_mul]
    omega
theorem join_ok {sep : Sg} {xs : List Sg} (h1 : okS sep) (h2 : ∀ x ∈ xs, okS x) (hl : (joinSg sep xs).length ≤ LIM) : okS (joinSg sep xs) := by
  refine ⟨?_, hl⟩
  have a1 := h1.1
  simp only [PyData.strOk, toStr, List.all_toArray, List.all_eq_true] at a1 ⊢
  intro c hc
  cases xs with
  | nil => cases hc
  | cons x r =>
    rw [joinSg_cons] at hc
    rcases List.mem_append.mp hc with hc | hc
    · have := (h2 x List.mem_cons_self).1
      simp only [PyData.strOk, toStr, List.all_toArray, List.all_eq_true] at this
      exact this c hc
    · obtain ⟨y, hy, hc⟩ := List.mem_flatMap.mp hc
      rcases List.mem_append.mp hc with hc | hc
      · exact a1 c hc
      · have := (h2 y (List.mem_cons_of_mem _ hy)).1
        simp only [PyData.strOk, toStr, List.all_toArray, List.all_eq_true] at this
        exact this c hc
theorem m_join : MtR X "str.join" (rMt X.K L .join) := by
  intro pins s σ H x xs v us Q I rx rs ⟨ω, o, ds, d, S3, hH, r, ro, rd, hm, k⟩
  subst hH
  obtain ⟨sep, a, es, ys, rfl, rfl, h1, h2, hl, rfl, rfl⟩ := inv_join hm
  obtain ⟨rfl, ok⟩ := ro
  obtain ⟨u, rfl, ry⟩ := rvs1 rd
  obtain ⟨b, vs, rfl, hq, rvs⟩ := asL_R r h1 ry
  obtain ⟨rfl, oks⟩ := strs_R h2 rvs
  refine L2.mt_join pins s σ _ _ _ v us Q I rx rs ⟨_, b, ys.map toStr, rfl, rfl, .inl hq, ?_, ?_⟩
  · have e : ((ys.map toStr).map (·.length)).sum + (ys.map toStr).length * (toStr sep).length ≤ (joinSg sep ys).length + sep.length := by
      have e1 : (ys.map toStr).map (·.length) = ys.map (·.length) := by simp [toStr_length]
      rw [e1, List.length_map, toStr_length]
      cases ys with
      | nil => simp
      | cons y r =>
        rw [joinSg_cons, List.length_append, join_len, List.map_cons, List.sum_cons, List.length_cons, Nat.add_mul]
        omega
    exact Nat.le_trans e hl
  · rw [join_glued]
    exact k ω _ (Ev.refl ω) r rfl ⟨rfl, join_ok ok oks (by omega)⟩
/-! ### o.m(..) -/
theorem s_nil : PA X [] (tA X.K C W []) := ⟨fun pos pins s σ H Q I h => pa_nil.run pos pins s σ H Q I (i_nil h)⟩
theorem s_cons {e : Expr} {es : List Expr} {c : CE} {cs : List CE} (he : PE X e (tE X.K C W c)) (hr : PA X es (tA X.K C W cs)) (hs : starEach (e :: es) X.env = (false, eval e X.env) :: starEach es X.env) : PA X (e :: es) (tA X.K C W (c :: cs)) :=
  ⟨fun pos pins s σ H Q I h => (pa_cons he hr hs).run pos pins s σ H Q I (i_cons h)⟩
/-- no star among them -/
def noStar (es : List Expr) : Bool := es.all fun e => match e with
  | .Starred _ _ => false
  | _ => true
theorem star_cons {e : Expr} {es : List Expr} {env : PySem.Env} (h : noStar (e :: es) = true) : starEach (e :: es) env = (false, eval e env) :: starEach es env ∧ noStar es = true := by
  simp only [noStar, List.all_cons, Bool.and_eq_true] at h
  refine ⟨?_, h.2⟩
  cases e <;> first | rfl | (exact absurd h.1 (by simp))
theorem star_all : ∀ {es : List Expr} {env : PySem.Env}, noStar es = true → starEach es env = es.map fun e => (false, eval e env)
  | [], _, _ => rfl
  | e :: es, env, h => by rw [(star_cons h).1, star_all (star_cons (env := env) h).2]; rfl
theorem back_any {es : List Expr} {env : PySem.Env} {pos : Pos} (h : noStar es = true) : (backTo pos (starEach es env)).any (·.1) = false := by
  rw [star_all h]
  induction es with
  | nil => rfl
  | cons e es ih =>
    have := ih (star_cons h (env := env)).2
    simpa [backTo] using this
theorem back_few {es : List Expr} {env : PySem.Env} {pos : Pos} (h : noStar es = true) (hn : es.length < 30) : ((backTo pos (starEach es env)).all (fun x => !x.1) && (backToKw pos (keywordEach [] env)).all (fun x => x.1.isSome)
      && decide (es.length + ([] : List Keyword).length + (if ([] : List Keyword).isEmpty then 0 else 1) < 30)) = true := by
  have e1 : (backTo pos (starEach es env)).all (fun x => !x.1) = true := by
    rw [star_all h]
    simp [backTo]
  rw [e1]
  simpa [backToKw, keywordEach] using hn
/-- the methods by name -/
def mtN : Mt → String
  | .append => "append" | .extend => "extend" | .pop => "pop" | .join => "join" | .get => "get" | .get2 => "get" | .update => "update"
theorem s_met {o e : Expr} {es : List Expr} {co : CE} {cs : List CE} {m : Mt} (hm : m = .append ∨ m = .extend ∨ m = .join) (hx : x = Str.ofString (mtN m)) (ho : PE X o (tE X.K C W co)) (ha : PA X (e :: es) (tA X.K C W cs)) (hb : attributeBase o x X.env (eval o X.env) = eval o X.env)
    (hs : noStar (e :: es) = true) (hn : (e :: es).length < 30) (hl : (apos.endLine == cpos.line) = true) : PE X (.Call (.Attribute o x apos) (e :: es) [] cpos) (tE X.K C W (.met co m cs)) := by
  subst hx
  rcases hm with rfl | rfl | rfl
  · exact tE.imp (pe_bm (name := Str.ofString "append") F.plainAttrs_list F.slot_list_append F.type_list_append m_append ho ha hb (back_few hs hn) hl (star_cons hs).1 (back_any (star_cons hs (env := X.env)).2)) fun σ H Q => i_met (ty_lst (.inl rfl))
  · exact tE.imp (pe_bm (name := Str.ofString "extend") F.plainAttrs_list F.slot_list_extend F.type_list_extend m_extend ho ha hb (back_few hs hn) hl (star_cons hs).1 (back_any (star_cons hs (env := X.env)).2)) fun σ H Q => i_met (ty_lst (.inr (.inl rfl)))
  · exact tE.imp (pe_bm (name := Str.ofString "join") F.plainAttrs_str F.slot_str_join F.type_str_join m_join ho ha hb (back_few hs hn) hl (star_cons hs).1 (back_any (star_cons hs (env := X.env)).2)) fun σ H Q => i_met ty_str
theorem s_pop {o : Expr} {co : CE} (hx : x = Str.ofString "pop") (ho : PE X o (tE X.K C W co)) (hb : attributeBase o x X.env (eval o X.env) = eval o X.env) (hl : (apos.endLine == cpos.line) = true) : PE X (.Call (.Attribute o x apos) [] [] cpos) (tE X.K C W (.met co .pop [])) := by
  subst hx
  exact tE.imp (pe_bm0 (name := Str.ofString "pop") F.plainAttrs_list F.slot_list_pop F.type_list_pop m_pop ho hb hl) fun σ H Q => i_met0 (ty_lst (.inr (.inr rfl)))
theorem isD_of {a : Addr} {ws : List (Key × V)} (h : Rd ω.H a (.dK ws)) : IsD ω.H a := .inl ⟨ws, h⟩
theorem dget_all {K : PySem.W.Frag} (r : Rel K L ω) {o k d0 : D} {kvs : List (D × D)} {a : Addr} {kv v0 : V} (ho : dOf ω.S o = some kvs) (ro : RV K L ω o (.ref a)) (hk : keyD k = true) (rk : RV K L ω k kv) (r0 : RV K L ω d0 v0) :
    ∃ ov, DGet ω.H a kv ov ∧ RV K L ω ((getD kvs k).getD d0) (ov.getD v0) := by
  obtain ⟨a', ws, e, hd, rks⟩ := dOf_R r ho ro
  cases e
  rcases dget_R hk rk hd rks with ⟨h1, h2⟩ | ⟨d, u, h1, h2, h3⟩
  · exact ⟨none, h2, by rw [h1]; exact r0⟩
  · exact ⟨some u, h2, by rw [h1]; exact h3⟩
theorem s_get {o e : Expr} {co ce : CE} (hu : X.A.units + 1 < cLine) (ho : PE X o (tE X.K C W co)) (he : PE X e (tE X.K C W ce)) (hb : attributeBase o "get" X.env (eval o X.env) = eval o X.env) (hs : noStar [e] = true) (hl : (apos.endLine == cpos.line) = true) :
    PE X (.Call (.Attribute o "get" apos) [e] [] cpos) (tE X.K C W (.met co .get [ce])) := by
  have st := star_all (env := X.env) hs
  refine tE.imp (pe_dget1 hu ho he ⟨hb, back_few hs (by simp), hl, by rw [st]; rfl⟩) fun σ H Q h => ?_
  obtain ⟨ω, e, rfl, r, er, h⟩ := h
  refine tE.step r er h fun ω1 d1 v1 e1 r1 q1 h1 => ?_
  split at h1
  · rename_i hp
    have hp : (dOf ω1.S d1).isSome = true := hp
    cases hd : dOf ω1.S d1 with
    | none => rw [hd] at hp; cases hp
    | some kvs0 =>
      obtain ⟨a, ws, rfl, rd, _⟩ := dOf_R r1 hd q1
      refine ⟨a, rfl, isD_of rd, ?_⟩
      have h1 : Rn X.K C.L (((evE C.P C.F ce e ω1.S).bnd fun x S1 => (Re.ok [] S1).bnd fun xs S2 => Re.ok (x :: xs) S2).bnd fun xs S2 => (match mtOp S2 d1 .get xs with
        | some (d, S3) => Re.ok d S3
        | none => .stuck)) (fun ω' d => ∀ v, RV X.K C.L ω' d v → Q v ω'.H) (JXof X.K C.L W σ) ω1 := h1
      rw [Re.assoc] at h1
      refine tE.step r1 (er.mono e1) h1 fun ω2 d2 v2 e2 r2 q2 h2 => ?_
      have h2 : Rn X.K C.L (match mtOp ω2.S d1 .get [d2] with
        | some (d, S3) => Re.ok d S3
        | none => .stuck) (fun ω' d => ∀ v, RV X.K C.L ω' d v → Q v ω'.H) (JXof X.K C.L W σ) ω2 := h2
      split at h2
      · rename_i d S3 hm
        obtain ⟨k, kvs, ek, hk, hkd, rfl, rfl⟩ := inv_get hm
        cases ek
        obtain ⟨ov, g, rv⟩ := dget_all r2 hk (RV.mono e2 d1 q1) hkd q2 (show RV X.K C.L ω2 .non .non from rfl)
        exact ⟨ov, g, h2.here r2 _ rv⟩
      · exact h2.elim
  · exact h1.elim
theorem s_get2 {o e f : Expr} {co ce cf : CE} (hu : X.A.units + 1 < cLine) (ho : PE X o (tE X.K C W co)) (he : PE X e (tE X.K C W ce)) (hf : PE X f (tE X.K C W cf)) (hb : attributeBase o "get" X.env (eval o X.env) = eval o X.env) (hs : noStar [e, f] = true) (hl : (apos.endLine == cpos.line) = true) :
    PE X (.Call (.Attribute o "get" apos) [e, f] [] cpos) (tE X.K C W (.met co .get2 [ce, cf])) := by
  have st := star_all (env := X.env) hs
  refine tE.imp (pe_dget2 hu ho he hf ⟨hb, back_few hs (by simp), hl, by rw [st]; rfl⟩) fun σ H Q h => ?_
  obtain ⟨ω, e, rfl, r, er, h⟩ := h
  refine tE.step r er h fun ω1 d1 v1 e1 r1 q1 h1 => ?_
  split at h1
  · rename_i hp
    have hp : (dOf ω1.S d1).isSome = true := hp
    cases hd : dOf ω1.S d1 with
    | none => rw [hd] at hp; cases hp
    | some kvs0 =>
      obtain ⟨a, ws, rfl, rd, _⟩ := dOf_R r1 hd q1
      refine ⟨a, rfl, isD_of rd, ?_⟩
      have h1 : Rn X.K C.L (((evE C.P C.F ce e ω1.S).bnd fun x S1 => ((evE C.P C.F cf e S1).bnd fun y S2 => (Re.ok [] S2).bnd fun xs S3 => Re.ok (y :: xs) S3).bnd fun xs S2 => Re.ok (x :: xs) S2).bnd fun xs S2 => (match mtOp S2 d1 .get2 xs with
        | some (d, S3) => Re.ok d S3
        | none => .stuck)) (fun ω' d => ∀ v, RV X.K C.L ω' d v → Q v ω'.H) (JXof X.K C.L W σ) ω1 := h1
      rw [Re.assoc] at h1
      refine tE.step r1 (er.mono e1) h1 fun ω2 d2 v2 e2 r2 q2 h2 => ?_
      rw [Re.assoc, Re.assoc] at h2
      refine tE.step r2 ((er.mono e1).mono e2) h2 fun ω3 d3 v3 e3 r3 q3 h3 => ?_
      have h3 : Rn X.K C.L (match mtOp ω3.S d1 .get2 [d2, d3] with
        | some (d, S3) => Re.ok d S3
        | none => .stuck) (fun ω' d => ∀ v, RV X.K C.L ω' d v → Q v ω'.H) (JXof X.K C.L W σ) ω3 := h3
      split at h3
      · rename_i d S3 hm
        obtain ⟨k, x, kvs, ek, hk, hkd, rfl, rfl⟩ := inv_get2 hm
        cases ek
        obtain ⟨ov, g, rv⟩ := dget_all r3 hk (RV.mono (e2.trans e3) d1 q1) hkd (RV.mono e3 d2 q2) q3
        exact ⟨ov, g, h3.here r3 _ rv⟩
      · exact h3.elim
  · exact h1.elim
end
end Mi
end
section
set_option Elab.async false
set_option linter.all false
set_option maxRecDepth 100000
set_option maxHeartbeats 4000000
/-! Written dicts. -/
namespace Mi
open PySem PySem.Spec PyProof.Rows L2
section
variable {X : Cx} {C : Cn} {L : Lnk} {W : WX} {K : PySem.W.Frag} {ω ω' : Wd} {e : Mi.Env} {σ : L2.St}
def prC : List CE → List (CE × CE)
  | a :: b :: r => (a, b) :: prC r
  | _ => []
def trsC (K : PySem.W.Frag) (C : Cn) (W : WX) (cs : List CE) : List (TE × TE) := (prC cs).map fun p => (tE K C W p.1, tE K C W p.2)
/-- the pairs' values -/
def RPs (K : PySem.W.Frag) (L : Lnk) (ω : Wd) : List (D × D) → List (V × V) → Prop
  | [], ps => ps = []
  | (a, b) :: r, ps => ∃ x y q, ps = (x, y) :: q ∧ RV K L ω a x ∧ RV K L ω b y ∧ RPs K L ω r q
theorem RPs.m0 (x : Ev0 K ω ω') : ∀ {kvs : List (D × D)} {ps : List (V × V)}, RPs K L ω kvs ps → RPs K L ω' kvs ps
  | [], _, h => h
  | (a, b) :: r, _, ⟨u, v, q, h1, h2, h3, h4⟩ => ⟨u, v, q, h1, RV.m0 x a h2, RV.m0 x b h3, RPs.m0 x h4⟩
theorem evEs_cons {P : Pg} {F : Fns} {c : CE} {cs : List CE} {S S' : Mi.St} {xs : List D} (h : evEs P F (c :: cs) e S = .ok xs S') : ∃ x r S1, evE P F c e S = .ok x S1 ∧ evEs P F cs e S1 = .ok r S' ∧ xs = x :: r := by
  simp only [evEs] at h
  cases h1 : evE P F c e S with
  | ok x S1 =>
    rw [h1] at h
    have h : ((evEs P F cs e S1).bnd fun xs S2 => Re.ok (x :: xs) S2) = .ok xs S' := h
    cases h2 : evEs P F cs e S1 with
    | ok r S2 => rw [h2] at h; cases h; exact ⟨x, r, S1, rfl, h2, rfl⟩
    | exc c fs S2 => rw [h2] at h; cases h
    | stuck => rw [h2] at h; cases h
  | exc c fs S1 => rw [h1] at h; cases h
  | stuck => rw [h1] at h; cases h
theorem pairs_R : ∀ {cs : List CE} {kvs : List (D × D)} {xs : List D} {S' : Mi.St} {ω : Wd} {Q : List (V × V) → Hp → Prop}, evEs C.P C.F cs e ω.S = .ok xs S' → dspOf xs = some kvs → Rel K C.L ω → EnvR K C.L ω e σ →
    (∀ ω' ps, Ev K ω ω' → Rel K C.L ω' → ω'.S = S' → RPs K C.L ω' kvs ps → (∀ p ∈ kvs, keyD p.1 = true) → Q ps ω'.H) → tPairs (trsC K C W cs) σ ω.H Q
  | [], kvs, xs, S', ω, Q, h, hk, r, er, k => by
    cases h
    cases hk
    exact k ω [] (Ev.refl ω) r rfl rfl (fun _ z => nomatch z)
  | [c], kvs, xs, S', ω, Q, h, hk, r, er, k => by
    obtain ⟨x, q, S1, h1, h2, rfl⟩ := evEs_cons h
    cases h2
    simp [dspOf] at hk
  | c :: c2 :: cs, kvs, xs, S', ω, Q, h, hk, r, er, k => by
    obtain ⟨x, q, S1, h1, h2, rfl⟩ := evEs_cons h
    obtain ⟨y, q2, S2, h3, h4, rfl⟩ := evEs_cons h2
    simp only [dspOf] at hk
    split at hk
    · rename_i hkey
      cases hd : dspOf q2 with
      | none => rw [hd] at hk; cases hk
      | some kvs' =>
        rw [hd] at hk
        cases hk
        show tE K C W c σ ω.H fun x H1 => tE K C W c2 σ H1 fun y H2 => tPairs (trsC K C W cs) σ H2 fun ps H3 => Q ((x, y) :: ps) H3
        refine ⟨ω, e, rfl, r, er, ?_⟩
        rw [h1]
        intro ω1 e1 r1 s1 v1 q1
        subst s1
        refine ⟨ω1, e, rfl, r1, er.mono e1, ?_⟩
        rw [h3]
        intro ω2 e2 r2 s2 v2 q2'
        subst s2
        refine pairs_R h4 hd r2 ((er.mono e1).mono e2) fun ω3 ps e3 r3 s3 rp hks => ?_
        refine k ω3 _ ((e1.trans e2).trans e3) r3 s3 ⟨v1, v2, ps, rfl, RV.mono (e2.trans e3) x q1, RV.mono e3 y q2', rp⟩ fun p hp => ?_
        rcases List.mem_cons.mp hp with rfl | hp
        · exact hkey
        · exact hks p hp
    · cases hk
theorem rps_keys : ∀ {kvs : List (D × D)} {ps : List (V × V)}, RPs K L ω kvs ps → (∀ p ∈ kvs, keyD p.1 = true) → ∃ ws : List (Key × V), ps = ws.map (fun kv => (kV kv.1, kv.2)) ∧ RVk K L ω kvs ws
  | [], _, h, _ => by cases h; exact ⟨[], rfl, rfl⟩
  | (a, b) :: r, _, ⟨u, v, q, h1, h2, h3, h4⟩, hk => by
    obtain ⟨l, hl, rfl⟩ := keyOf_kV (hk (a, b) List.mem_cons_self) h2
    obtain ⟨ws, rfl, rk⟩ := rps_keys h4 fun p hp => hk p (List.mem_cons_of_mem _ hp)
    exact ⟨(l, v) :: ws, h1, l, v, ws, rfl, ⟨hl, okKey_of h2⟩, h3, rk⟩
theorem merge_R : ∀ {more : List (D × D)} {ms : List (Key × V)} {kvs : List (D × D)} {ws : List (Key × V)}, RVk K L ω more ms → RVk K L ω kvs ws → RVk K L ω (mergeD kvs more) (mergeK ws ms)
  | [], _, kvs, ws, h, q => by cases h; exact q
  | (a, b) :: r, _, kvs, ws, ⟨l, v, rest, h1, h2, h3, h4⟩, q => by
    subst h1
    show RVk K L ω (mergeD (putD a b kvs) r) (mergeK (putK ws l v) rest)
    exact merge_R h4 (putK_R h2.1 h2.2 h3 q)
theorem i_dsp {live : Bool} {cs : List CE} {W' : WX} {σ : L2.St} {H : Hp} {Q : VK} (h : tE K C W (.dsp live cs) σ H Q) : tDisp (trsC K C W' cs) σ H Q := by
  obtain ⟨ω, e, rfl, r, er, h⟩ := h
  have h : Rn K C.L ((evEs C.P C.F cs e ω.S).nox.bnd fun xs S1 => (match dspOf xs with
    | some kvs => if kvs.length ≤ 15 then allocD live (mergeD [] kvs) S1 else .stuck
    | none => .stuck)) (fun ω' d => ∀ v, RV K C.L ω' d v → Q v ω'.H) (JXof K C.L W σ) ω := h
  intro p hp
  cases hm : evEs C.P C.F cs e ω.S with
  | exc c fs S => rw [hm] at h; exact h.elim
  | stuck => rw [hm] at h; exact h.elim
  | ok xs S' =>
    rw [hm] at h
    have h : Rn K C.L (match dspOf xs with
      | some kvs => if kvs.length ≤ 15 then allocD live (mergeD [] kvs) S' else .stuck
      | none => .stuck) (fun ω' d => ∀ v, RV K C.L ω' d v → Q v ω'.H) (JXof K C.L W σ) ω := h
    cases hk : dspOf xs with
    | none => rw [hk] at h; exact h.elim
    | some kvs =>
      rw [hk] at h
      dsimp only at h
      split at h
      · rename_i hl
        have nB : ¬ ω.B p := r.notB hp
        refine pairs_R (ω := ω.beg p (.dK [])) hm hk (Rel.beg r hp) (EnvR.m0 (Ev0.beg hp) er) fun ω2 ps ev r2 s2 rp hks => ?_
        have bp : (ω.beg p (.dK [])).B p := .inr rfl
        have hp2 : ω2.H p = some (.dK []) := (ev.prH p bp).trans upd_same
        have b2 : ω2.B p := by rw [ev.pr]; exact bp
        have sub : ∀ a, ω.B a → ω2.B a := fun a ha => by rw [ev.pr]; exact .inl ha
        obtain ⟨ws, rfl, rk⟩ := rps_keys rp hks
        refine ⟨hp2, ws, rfl, by rw [rvk_len rk]; exact hl, ?_⟩
        have e0 : Ev0 K ω ω2 := (Ev0.beg hp).trans ev.toEv0
        have e1 : Ev0 K ω2 (ω2.pw p (.dK (mergeK [] ws))) := Ev0.pwD b2 hp2
        have r3 := Rel.pwD (o := .dK (mergeK [] ws)) r2 b2 hp2
        have rk2 : RVk K C.L (ω2.pw p (.dK (mergeK [] ws))) (mergeD [] kvs) (mergeK [] ws) := merge_R (RVk.m0 e1 kvs rk) (kvs := []) (ws := []) rfl
        have keepH : ∀ a, ω.B a → (ω2.pw p (.dK (mergeK [] ws))).H a = ω.H a := fun a ha => by
          have ne : a ≠ p := fun z => nB (z ▸ ha)
          exact (upd_ne ne).trans ((ev.prH a (.inl ha)).trans (upd_ne ne))
        cases live with
        | false =>
          have ev2 : Ev K ω ((ω2.pw p (.dK (mergeK [] ws))).res ω.B) := { toEv0 := (e0.trans e1).trans (Ev0.res sub), pr := rfl, prH := keepH }
          exact (h : ∀ ω', Ev K ω ω' → Rel K C.L ω' → ω'.S = S' → ∀ v, RV K C.L ω' (.dct (mergeD [] kvs)) v → Q v ω'.H) _ ev2 (Rel.res r3 sub) s2 _ ⟨p, _, rfl, ⟨.inl upd_same, fun n u q z => r2.priv n u q (z ▸ b2), nB⟩, RVk.m0 (Ev0.res (ω := ω2.pw p (.dK (mergeK [] ws))) sub) _ rk2⟩
        | true =>
          have ea : Ev0 K (ω2.pw p (.dK (mergeK [] ws))) ((ω2.pw p (.dK (mergeK [] ws))).adopt ω.B p (.dct (mergeD [] kvs) false)) := Ev0.adopt sub b2
          have ev2 : Ev K ω ((ω2.pw p (.dK (mergeK [] ws))).adopt ω.B p (.dct (mergeD [] kvs) false)) := { toEv0 := (e0.trans e1).trans ea, pr := rfl, prH := keepH }
          have e5 : ((ω2.pw p (.dK (mergeK [] ws))).adopt ω.B p (.dct (mergeD [] kvs) false)).S = S' ++ [some (.dct (mergeD [] kvs) false)] := by rw [← s2]; rfl
          refine (h : ∀ ω', Ev K ω ω' → Rel K C.L ω' → ω'.S = S' ++ [some (.dct (mergeD [] kvs) false)] → ∀ v, RV K C.L ω' (.ref S'.length) v → Q v ω'.H) _ ev2 (Rel.adopt r3 sub b2 nB ⟨_, upd_same, RVk.m0 ea _ rk2⟩) e5 _ ⟨by rw [e5]; simp, ?_⟩
          rw [← s2]
          show V.ref p = .ref (if ω2.S.length = ω2.S.length then p else _)
          rw [if_pos rfl]
      · exact h.elim
end
end Mi
end
section
set_option Elab.async false
set_option linter.all false
set_option maxRecDepth 100000
set_option maxHeartbeats 4000000
/-! dict.update, dict(pairs), list(enumerate(..)). -/
namespace Mi
open PySem PySem.Spec PyProof.Rows L2
section
variable {X : Cx} {C : Cn} {L : Lnk} {W : WX} {ω : Wd} {x : Str} {p pos apos cpos : Pos}
theorem inv_update {S S3 : Mi.St} {o d : D} {ds : List D} (h : mtOp S o .update ds = some (d, S3)) : ∃ n v kvs more, o = .ref n ∧ ds = [v] ∧ S[n]? = some (some (.dct kvs false)) ∧ dOf S v = some more ∧ kvs.length + more.length ≤ LIM ∧ (∀ j, v = .ref j → j ≠ n) ∧ d = .non ∧ S3 = S.set n (some (.dct (mergeD kvs more) false)) := by
  unfold mtOp at h
  split at h <;> try (first | contradiction | (cases h; done))
  split at h
  · split at h
    · rename_i hc
      simp only [Bool.and_eq_true, decide_eq_true_eq, Bool.not_eq_true'] at hc
      cases h
      refine ⟨_, _, _, _, rfl, rfl, ‹_›, ‹_›, hc.1, fun j e z => ?_, rfl, rfl⟩
      have hc2 := hc.2
      rw [e, z] at hc2
      simp [sameRef] at hc2
    · cases h
  · cases h
theorem length_mergeK : ∀ (more : List (Key × V)) (ws : List (Key × V)), (mergeK ws more).length ≤ ws.length + more.length
  | [], ws => Nat.le_refl _
  | q :: r, ws => by
    have h1 := length_mergeK r (putK ws q.1 q.2)
    have h2 := length_putK ws q.1 q.2
    show (mergeK (putK ws q.1 q.2) r).length ≤ _
    rw [List.length_cons]
    omega
theorem m_update : MtR X "dict.update" (rMt X.K L .update) := by
  intro pins s σ H x xs v us Q I rx rs ⟨ω, o, ds, d, S3, hH, r, ro, rd, hm, k⟩
  subst hH
  obtain ⟨n, y, kvs, more, rfl, rfl, hds, hy, hl, hne, rfl, rfl⟩ := inv_update hm
  obtain ⟨hn, rfl⟩ := ro
  obtain ⟨u, rfl, ry⟩ := rvs1 rd
  obtain ⟨ws, h1, rk⟩ := r.live _ _ hds
  obtain ⟨b, ms, rfl, h2, rm⟩ := dOf_R r hy ry
  obtain ⟨u1, rfl, ru⟩ := vals1 rs
  cases rx
  cases ru
  -- the two stand apart
  have hdb : ω.M n ≠ b := by
    intro e
    unfold dOf at hy
    split at hy
    · obtain ⟨a, ws', e2, hd, _⟩ := ry
      cases e2
      exact hd.2.1 n _ hds e
    · split at hy
      · rename_i q
        have e2 := V.ref.inj ry.2
        exact hne _ rfl (r.inj _ n _ _ q hds (e2.symm.trans e.symm))
      · cases hy
    · cases hy
  have ev : Ev X.K ω (ω.put n (.dK (mergeK ws ms)) (.dct (mergeD kvs more) false)) := Ev.put r hds
  obtain ⟨z1, l1, vs1, kv1, D1⟩ := I.hok _ _ h1
  obtain ⟨z2, l2, vs2, kv2, D2⟩ := (h2.ok I.hok : ObjOk X.prog X.w ω.H s.heap b (.dK ms))
  have len1 := rvk_len rk
  have len2 := rvk_len rm
  have q1 := Paired.length kv1
  have q2 := Paired.length kv2
  refine call_meetsIn F.slot_dict_update D1.typeIs F.entry_dict_update (F.args_dict_update_2 _ _) (meets_dict_update (mixKind X.prog X.w) (ω.M n) b hdb l2) ⟨vs1, vs2, D1, D2, ?_, fun h' hd ho sb => ?_⟩
  · rw [← q1, ← q2, len1, len2, ← lim_line]; exact hl
  · obtain ⟨oo, es, ep, he, _⟩ := id hd
    refine ⟨.non, _, I.write (t' := s.toks) (o := .dK (mergeK ws ms)) (by rw [h1]; trivial) (.inl rfl) (fun c w hc q => (sb.2 c hc).trans q) ⟨_, he⟩ ⟨?_, l1, _, KV.merge kv2 kv1, hd⟩, rfl, ?_⟩
    · have := length_mergeK ms ws
      rw [len1, len2] at this
      rw [← lim_line]
      omega
    · exact k _ .non ev (Rel.put r hds ⟨_, upd_same, merge_R (RVk.mono ev more rm) (RVk.mono ev kvs rk)⟩) rfl rfl
theorem ty_dct : ∀ ω o v, Rel X.K C.L ω → RV X.K C.L ω o v → mtPre ω.S .update o = true → tyV X.K "dict" v ω.H := by
  intro ω o v r ro hp
  simp only [mtPre] at hp
  split at hp
  · split at hp
    · rename_i q
      obtain ⟨ws, h1, _⟩ := r.live _ _ q
      rw [ro.2]
      exact .inr (.inr (.inl ⟨rfl, .inl ⟨ws, h1⟩⟩))
    · cases hp
  · cases hp
theorem type_upd : typeOf (.builtin "dict.update") = pure (.type "method_descriptor") := by show builtinType _ = _; rw [builtinType_eq_fast]; kernel_rfl
theorem s_update {o e : Expr} {es : List Expr} {co : CE} {cs : List CE} (hx : x = Str.ofString "update") (ho : PE X o (tE X.K C W co)) (ha : PA X (e :: es) (tA X.K C W cs)) (hb : attributeBase o x X.env (eval o X.env) = eval o X.env)
    (hs : noStar (e :: es) = true) (hn : (e :: es).length < 30) (hl : (apos.endLine == cpos.line) = true) : PE X (.Call (.Attribute o x apos) (e :: es) [] cpos) (tE X.K C W (.met co .update cs)) := by
  subst hx
  exact tE.imp (pe_bm (name := Str.ofString "update") F.plainAttrs_dict F.slot_dict_update type_upd m_update ho ha hb (back_few hs hn) hl (star_cons hs).1 (back_any (star_cons hs (env := X.env)).2)) fun σ H Q => i_met ty_dct
/-- dict(a list of pairs) -/
theorem pairs_of_R {K : PySem.W.Frag} (r : Rel K L ω) : ∀ {ds : List D} {vs : List V} {kvs : List (D × D)}, pairsOf ds = some kvs → (kvs.all fun p => keyD p.1) = true → RVs K L ω ds vs → ∃ (ps : List Addr) (ws : List (Key × V)), vs = ps.map V.ref ∧ Paired (fun p kv => SqT K ω.H p [kV kv.1, kv.2]) ps ws ∧ RVk K L ω kvs ws
  | [], vs, kvs, h, hk, rs => by
    cases h
    cases rs
    exact ⟨[], [], rfl, .nil, rfl⟩
  | d :: ds, vs, kvs, h, hk, rs => by
    obtain ⟨v, us, rfl, r1, r2⟩ := rs
    unfold pairsOf at h
    split at h
    · rename_i q; cases q
    · rename_i a b rr q
      cases q
      cases hp : pairsOf ds with
      | none => rw [hp] at h; cases h
      | some kv2 =>
        rw [hp] at h
        cases h
        simp only [List.all_cons, Bool.and_eq_true] at hk
        obtain ⟨ps, ws, rfl, hq, rk⟩ := pairs_of_R r hp hk.2 r2
        obtain ⟨p, zs, rfl, ht, rz⟩ := r1
        obtain ⟨u1, u2, rfl, g1, g2⟩ := rvs2 rz
        obtain ⟨l, hl, rfl⟩ := keyOf_kV hk.1 g1
        exact ⟨p :: ps, (l, u2) :: ws, rfl, .cons ht.sq hq, l, u2, ws, rfl, ⟨hl, okKey_of g1⟩, g2, rk⟩
    · cases h
theorem c_dict (hc : X.calm = true) : CallB X L .dict := by
  intro pins s σ H xs us Q I rx h
  obtain ⟨ω, ds, d, rfl, r, rs, h0, k⟩ := h
  have ho : biOp ω.S .dict ds = some d := h0
  clear h0
  unfold biOp at ho
  split at ho <;> try (first | contradiction | (cases ho; done))
  rename_i a _
  cases e : asL ω.S a with
  | none => rw [e] at ho; cases ho
  | some es =>
    rw [e] at ho
    simp only [Option.bind_some] at ho
    cases e2 : pairsOf es with
    | none => rw [e2] at ho; cases ho
    | some kvs =>
      rw [e2] at ho
      simp only [Option.bind_some] at ho
      split at ho
      · rename_i hk
        cases ho
        obtain ⟨v, rfl, rv⟩ := rvs1 rs
        obtain ⟨b, vs, rfl, hq, rs2⟩ := asL_R r e rv
        obtain ⟨ps, ws, rfl, hp, rk⟩ := pairs_of_R r e2 hk rs2
        refine call_dictP hc pins s σ _ _ us Q I rx ⟨b, ps, ws, rfl, hq, hp, fun p hn => ?_⟩
        have ev := Ev.lay (K := X.K) (o := .dK (mergeK [] ws)) r hn
        exact k (ω.lay p (.dK (mergeK [] ws))) (.ref p) ev (Rel.lay r hn) rfl ⟨p, _, rfl, ⟨.inl upd_same, Frz.new r hn⟩, merge_R (RVk.mono ev kvs rk) (kvs := []) (ws := []) rfl⟩
      · cases ho
end
end Mi
end
section
set_option Elab.async false
set_option linter.all false
set_option maxRecDepth 100000
set_option maxHeartbeats 4000000
/-! list(enumerate(x)): the iterator's own tuple is never let go. -/
namespace Mi
open PySem PySem.Spec PyProof.Rows L2
section
variable {prog : Program} {w : World} {A : Around} {E : Value → Shared → Prop} {s : Shared} {c it T : Addr} {fp : List Addr} {n i : Nat} {P : Nat → Value → Prop} {St : Nat → Heap → Prop} {old : Value} {f : Bool} {oT : Obj}
theorem held_next {Q : Value → Shared → Prop} (D : Draws prog w A it fp n P St) (hc : PySem.IsEnumHeld s.heap c it (i : Int) old T f) (hT : s.heap.get? T = some oT) (Tc : T ≠ c) (Ti : T ≠ it) (st : St i s.heap) (lt : i < n) (ne : c ≠ it) (nf : c ∉ fp)
    (hQ : ∀ x g' tk, P i x → PySem.IsEnumHeld g' c it ((i : Int) + 1) old T true → St (i + 1) g' → g'.get? s.heap.objs.size = some { cls := .type "tuple", data := .seq #[.int i tk, x] } → g'.objs.size = s.heap.objs.size + 1 →
      (∀ b o, b ≠ c → b ≠ it → s.heap.get? b = some o → g'.get? b = some o) → Q (.ref s.heap.objs.size) { s with heap := g', toks := tk + 1 }) :
    wpAny (model prog w) A (Builtin.«enumerate.__next__» ⟨[.ref c], []⟩) (fun fin u => ∃ v, fin = .done (.ret v) ∧ Q v u) E s := by
  obtain ⟨g0, gg, dd, tk0, os⟩ := s
  show wpAny _ _ (field (.ref c) 2 >>= _) _ _ _
  refine wpAny_bind (wpAny_field hc rfl (x := .ref it) rfl ?_)
  refine wpAny_bind (D.item i _ _ _ lt st fun x g1 tk px st1 sb1 => ?_)
  replace sb1 : Heap.SameBut it g0 g1 := sb1
  have c1 : PySem.IsEnumHeld g1 c it (i : Int) old T f := (sb1.2 c ne).trans hc
  show wpAny _ _ (field (.ref c) 3 >>= _) _ _ ⟨g1, gg, dd, tk, os⟩
  refine wpAny_bind (wpAny_field c1 rfl (x := rawInt i) rfl ?_)
  show wpAny _ _ (field (.ref c) 4 >>= _) _ _ ⟨g1, gg, dd, tk, os⟩
  refine wpAny_bind (wpAny_field c1 rfl (x := .none) rfl ?_)
  show wpAny _ _ (mkInt i >>= _) _ _ ⟨g1, gg, dd, tk, os⟩
  refine wpAny_bind (wpAny_mkInt ?_)
  show wpAny _ _ (setField (.ref c) 3 (rawInt ((i : Int) + 1)) >>= _) _ _ ⟨g1, gg, dd, tk + 1, os⟩
  refine wpAny_bind (wpAny_setField_rec c1 (by simp) fun g2 c2 sb2 => ?_)
  replace sb2 : Heap.SameBut c g1 g2 := sb2
  replace c2 : PySem.IsEnumHeld g2 c it ((i : Int) + 1) old T f := c2
  show wpAny _ _ (setField (.ref c) 4 .none >>= _) _ _ ⟨g2, gg, dd, tk + 1, os⟩
  refine wpAny_bind (wpAny_setField_rec c2 (by simp) fun g3 c3 sb3 => ?_)
  replace sb3 : Heap.SameBut c g2 g3 := sb3
  replace c3 : PySem.IsEnumHeld g3 c it ((i : Int) + 1) old T f := c3
  show wpAny _ _ (newTuple [.int i tk, x] >>= _) _ _ ⟨g3, gg, dd, tk + 1, os⟩
  refine wpAny_bind (wpAny_newTuple ?_)
  have sz3 : g3.objs.size = g0.objs.size := by rw [sb3.1, sb2.1, sb1.1]
  have c4 : PySem.IsEnumHeld (g3.push { cls := .type "tuple", data := .seq #[.int i tk, x] }) c it ((i : Int) + 1) old T f := Heap.get?_push_of_some _ c3
  have k4 : ∀ b o, b ≠ c → b ≠ it → g0.get? b = some o → (g3.push { cls := .type "tuple", data := .seq #[.int i tk, x] }).get? b = some o := fun b o b1 b2 e => Heap.get?_push_of_some _ (sb3.extBut b o b1 (sb2.extBut b o b1 (sb1.extBut b o b2 e)))
  have s4 : St (i + 1) (g3.push { cls := .type "tuple", data := .seq #[.int i tk, x] }) := D.frame _ _ _ st1 fun b hb o e => by
    have b1 : b ≠ c := fun q => nf (q ▸ hb)
    exact Heap.get?_push_of_some _ (sb3.extBut b o b1 (sb2.extBut b o b1 e))
  have t4 : (g3.push { cls := .type "tuple", data := .seq #[.int i tk, x] }).get? g0.objs.size = some { cls := .type "tuple", data := .seq #[.int i tk, x] } := by rw [← sz3]; exact Heap.get?_push_size _ rfl
  have z4 : (g3.push { cls := .type "tuple", data := .seq #[.int i tk, x] }).objs.size = g0.objs.size + 1 := by rw [Heap.size_push, sz3]
  have cl : c < g0.objs.size := Heap.lt_size hc
  generalize g3.push { cls := .type "tuple", data := .seq #[.int i tk, x] } = g4 at c4 k4 s4 t4 z4
  show wpAny _ _ (Builtin.SmallTypes.ownedTupleIsFree (.ref c) >>= _) _ _ ⟨g4, gg, dd, tk + 1, os⟩
  rw [sz3]
  refine wpAny_bind (wpAny_tupleHeld_enum (s := ⟨g4, gg, dd, tk + 1, os⟩) c4 (k4 T oT Tc Ti hT) fun g5 c5 sb5 => ?_)
  replace sb5 : Heap.SameBut c g4 g5 := sb5
  simp only [Bool.false_eq_true, if_false]
  refine wpAny_pure ⟨_, rfl, hQ x g5 tk px c5 (D.frame _ _ _ s4 fun b hb o e => sb5.extBut b o (fun q => nf (q ▸ hb)) e) (sb5.extBut _ _ (Nat.ne_of_gt cl) t4) ?_ fun b o b1 b2 e => sb5.extBut b o b1 (k4 b o b1 b2 e)⟩
  show g5.objs.size = g0.objs.size + 1
  rw [sb5.1, z4]
theorem held_item {Q : Option Value → Shared → Prop} (D : Draws prog w A.in1 it fp n P St) (hc : PySem.IsEnumHeld s.heap c it (i : Int) old T f) (hT : s.heap.get? T = some oT) (Tc : T ≠ c) (Ti : T ≠ it) (st : St i s.heap) (lt : i < n) (ne : c ≠ it) (nf : c ∉ fp)
    (hQ : ∀ x g' tk, P i x → PySem.IsEnumHeld g' c it ((i : Int) + 1) old T true → St (i + 1) g' → g'.get? s.heap.objs.size = some { cls := .type "tuple", data := .seq #[.int i tk, x] } → g'.objs.size = s.heap.objs.size + 1 →
      (∀ b o, b ≠ c → b ≠ it → s.heap.get? b = some o → g'.get? b = some o) → Q (some (.ref s.heap.objs.size)) { s with heap := g', toks := tk + 1 }) : wpAny (model prog w) A (pyNext (.ref c)) Q E s := by
  have ty : s.TypeIs (.ref c) "enumerate" := ⟨_, hc, rfl⟩
  unfold pyNext
  exact wpAny_bind (wpAny_attempt (wpAny_callSpecial?_slot (name := Str.ofString "__next__") ty PySem.F.slot_enumerate_next (wpAny_call_entry PySem.F.slot_enumerate_next ty PySem.F.entry_enumerate_next
    (held_next D hc hT Tc Ti st lt ne nf fun x g' tk a1 a2 a3 a4 a5 a6 => wpAny_pure (hQ x g' tk a1 a2 a3 a4 a5 a6)) (PySem.F.args_enumerate_next_1 _))))
theorem held_end {Q : Option Value → Shared → Prop} (D : Draws prog w A.in1 it fp n P St) (hc : PySem.IsEnumHeld s.heap c it (i : Int) old T f) (st : St n s.heap) (hQ : ∀ g', Heap.ExtBut it s.heap g' → Q none { s with heap := g' }) : wpAny (model prog w) A (pyNext (.ref c)) Q E s := by
  have ty : s.TypeIs (.ref c) "enumerate" := ⟨_, hc, rfl⟩
  unfold pyNext
  refine wpAny_bind (wpAny_attempt (wpAny_callSpecial?_slot (name := Str.ofString "__next__") ty PySem.F.slot_enumerate_next (wpAny_call_entry PySem.F.slot_enumerate_next ty PySem.F.entry_enumerate_next ?_ (PySem.F.args_enumerate_next_1 _))))
  show wpAny _ _ (field (.ref c) 2 >>= _) _ _ _
  refine wpAny_bind (wpAny_field hc rfl (x := .ref it) rfl ?_)
  refine wpAny_bind (D.done _ _ _ st fun g' ex k1 ⟨o, ho, hcl⟩ => ?_)
  refine wpAny_bind (wpAny_isInstance (T := "StopIteration") (b := true) ⟨o, ho, hcl⟩ isSubtype_stop ?_)
  exact wpAny_pure (hQ _ k1)
/-- the pairs that were given out so far -/
structure LG (lo : Addr) (h : Heap) (as : List Addr) (us : List Value) : Prop where
  len : as.length = us.length
  rise : as.Pairwise (· < ·)
  above : ∀ a ∈ as, lo < a
  at_ : ∀ (j : Nat) (a : Addr), as[j]? = some a → ∃ t u, us[j]? = some u ∧ h.get? a = some { cls := .type "tuple", data := .seq #[.int (j : Int) t, u] }
theorem LG.lt {lo : Addr} {h : Heap} {as : List Addr} {us : List Value} (g : LG lo h as us) {a : Addr} (ha : a ∈ as) : a < h.objs.size := by
  obtain ⟨j, hj⟩ := List.mem_iff_getElem?.mp ha
  obtain ⟨_, _, _, e⟩ := g.at_ j a hj
  exact Heap.lt_size e
def EnSt (c it S : Addr) (i : Nat) (h : Heap) : Prop := (∃ old, IsEnum h c it (i : Int) old) ∨ ∃ old T f oT, PySem.IsEnumHeld h c it (i : Int) old T f ∧ h.get? T = some oT ∧ T ≠ c ∧ T ≠ it ∧ T ≠ S
theorem enum_loop {S : Addr} {R : Result → Shared → Prop} (D : Draws prog w A.in1.in1 it fp n P St) (ne : c ≠ it) (nf : c ∉ fp) (S1 : S ≠ c) (S2 : S ≠ it) (Sf : S ∉ fp) (hn : n ≤ sizeLine) (res : Value) {h0 : Heap}
    (hR : ∀ h' tk acc cc as us, (∀ b o, b ≠ S → b ≠ c → b ≠ it → h0.get? b = some o → h'.get? b = some o) → h'.get? S = some { cls := .type "list", dict := none, data := .seq acc cc, slots := #[] } → LG S h' as us → us.length = n → (∀ j u, us[j]? = some u → P j u) →
      acc.toList = as.map Value.ref → R (.ok (.ret res)) { s with heap := h', toks := tk }) :
    ∀ (k i : Nat) (h : Heap) (tk cc : Nat) (acc : Array Value) (as : List Addr) (us : List Value), n - i = k → i ≤ n → St i h → EnSt c it S i h → (∀ b o, b ≠ S → b ≠ c → b ≠ it → h0.get? b = some o → h.get? b = some o) →
      h.get? S = some { cls := .type "list", dict := none, data := .seq acc cc, slots := #[] } → acc.toList = as.map Value.ref → LG S h as us → us.length = i → (∀ j u, us[j]? = some u → P j u) → c < S → it < S →
      codeAny (model prog w) A (.builtin "list.extend.loop" ⟨[.ref S, .ref c, res], []⟩) R { s with heap := h, toks := tk } := by
  intro k
  induction k with
  | zero =>
    intro i h tk cc acc as us hk hi st en keep hS hacc lg hl hp cS iS
    have hin : i = n := by omega
    subst hin
    refine codeAny_builtin PySem.F.entry_extend_loop ?_
    rw [Around.under_plainId PySem.F.plain_extend_loop _]
    show wpAny _ A.in1 (pyNext (.ref c) >>= _) _ _ _
    have fin : ∀ g', Heap.ExtBut it h g' → R (.ok (.ret res)) { s with heap := g', toks := tk } := fun g' ex => by
      refine hR g' tk acc cc as us (fun b o b1 b2 b3 e => ex b o b3 (keep b o b1 b2 b3 e)) (ex S _ S2 hS) ⟨lg.len, lg.rise, lg.above, fun j a hj => ?_⟩ hl hp hacc
      obtain ⟨t, u, e1, e2⟩ := lg.at_ j a hj
      exact ⟨t, u, e1, ex a _ (Nat.ne_of_gt (Nat.lt_trans iS (lg.above a (List.mem_of_getElem? hj)))) e2⟩
    rcases en with ⟨old, he⟩ | ⟨old, T, f, oT, he, hT, t1, t2, t3⟩
    · exact wpAny_bind (wpAny_pyNext_enum_endD (s := { s with heap := h, toks := tk }) D he st fun g' ex => wpAny_pure (fin g' ex))
    · exact wpAny_bind (held_end (s := { s with heap := h, toks := tk }) D he st fun g' ex => wpAny_pure (fin g' ex))
  | succ k ih =>
    intro i h tk cc acc as us hk hi st en keep hS hacc lg hl hp cS iS
    have hlt : i < n := by omega
    have hsz : acc.size = i := by rw [← Array.length_toList, hacc, List.length_map, lg.len, hl]
    have Sl : S < h.objs.size := Heap.lt_size hS
    refine codeAny_builtin PySem.F.entry_extend_loop ?_
    rw [Around.under_plainId PySem.F.plain_extend_loop _]
    show wpAny _ A.in1 (pyNext (.ref c) >>= _) _ _ _
    -- what one turn leaves
    have go : ∀ x g' t', P i x → (∃ old T f oT, PySem.IsEnumHeld g' c it ((i : Int) + 1) old T f ∧ g'.get? T = some oT ∧ T ≠ c ∧ T ≠ it ∧ T ≠ S) → St (i + 1) g' → (∃ t, g'.get? h.objs.size = some { cls := .type "tuple", data := .seq #[.int (i : Int) t, x] }) → g'.objs.size = h.objs.size + 1 →
        (∀ b o, b ≠ c → b ≠ it → h.get? b = some o → g'.get? b = some o) →
        wpAny (model prog w) A.in1 (updateSeq S (·.push (Value.ref h.objs.size)) >>= fun _ => again (.builtin "list.extend.loop" ⟨[.ref S, .ref c, res], []⟩)) (fun fin s' => match fin with | .done f => R (.ok f) s' | .again c' => c'.quiet = true ∧ codeAny (model prog w) A c' R s') (fun e s' => R (.error e) s') { s with heap := g', toks := t' } := by
      intro x g' t' px ⟨old, T, f, oT, he, hT, t1, t2, t3⟩ st' ⟨t, ht⟩ hz kp
      have hS' := kp S _ S1 S2 hS
      have up : ∀ b o, b ≠ S → g'.get? b = some o → (g'.update S (Obj.mapSeq (·.push (Value.ref h.objs.size)))).get? b = some o := fun b o hb e => (Heap.get?_update_other _ _ (Ne.symm hb)).trans e
      refine wpAny_bind (wpAny_updateSeq hS' rfl (wpAny_pure ⟨plainId_quiet PySem.F.plain_extend_loop _, ih (i + 1) _ t' _ (acc.push (Value.ref h.objs.size)) (as ++ [h.objs.size]) (us ++ [x]) (by omega) hlt (D.frame _ _ _ st' fun b hb o e => up b o (fun q => Sf (q ▸ hb)) e) ?_
        (fun b o b1 b2 b3 e => up b o b1 (kp b o b2 b3 (keep b o b1 b2 b3 e))) (Heap.get?_update_self _ hS' rfl) (by rw [Array.toList_push, hacc, List.map_append]; rfl) ⟨by simp [lg.len], ?_, ?_, ?_⟩ (by simp [hl]) ?_ cS iS⟩) (by rw [hsz]; omega) (by show (acc.push (Value.ref h.objs.size)).size ≤ sizeLine + 1; rw [Array.size_push, hsz]; omega))
      · have ei : ((i + 1 : Nat) : Int) = (i : Int) + 1 := by omega
        exact .inr ⟨old, T, f, oT, by rw [ei]; exact up c _ (Ne.symm S1) he, up T _ t3 hT, t1, t2, t3⟩
      · refine List.pairwise_append.mpr ⟨lg.rise, List.pairwise_singleton _ _, fun a ha b hb => ?_⟩
        rw [List.mem_singleton.mp hb]
        exact lg.lt ha
      · intro a ha
        rcases List.mem_append.mp ha with ha | ha
        · exact lg.above a ha
        · rw [List.mem_singleton.mp ha]; exact Sl
      · intro j a hj
        by_cases h1 : j < as.length
        · rw [List.getElem?_append_left h1] at hj
          obtain ⟨t2, u, e1, e2⟩ := lg.at_ j a hj
          have ab := lg.above a (List.mem_of_getElem? hj)
          refine ⟨t2, u, ?_, up a _ (Nat.ne_of_gt ab) (kp a _ (Nat.ne_of_gt (Nat.lt_trans cS ab)) (Nat.ne_of_gt (Nat.lt_trans iS ab)) e2)⟩
          rw [List.getElem?_append_left (by rw [← lg.len]; exact h1)]
          exact e1
        · have hj2 : j = as.length := by
            have := (List.getElem?_eq_some_iff.mp hj).1
            simp at this
            omega
          have ei : j = i := by rw [hj2, lg.len, hl]
          rw [List.getElem?_append_right (by omega), hj2, Nat.sub_self] at hj
          have ea : h.objs.size = a := by simpa using hj
          refine ⟨t, x, ?_, ?_⟩
          · rw [List.getElem?_append_right (by omega), ei, hl, Nat.sub_self]; rfl
          · rw [← ea, ei]
            exact up _ _ (Nat.ne_of_gt Sl) ht
      · intro j u hj
        by_cases h1 : j < us.length
        · rw [List.getElem?_append_left h1] at hj
          exact hp j u hj
        · have := (List.getElem?_eq_some_iff.mp hj).1
          simp at this
          have ei : j = us.length := by omega
          rw [ei, List.getElem?_append_right (Nat.le_refl _), Nat.sub_self] at hj
          have ex : x = u := by simpa using hj
          rw [← ex, ei, hl]
          exact px
    rcases en with ⟨old, he⟩ | ⟨old, T, f, oT, he, hT, t1, t2, t3⟩
    · refine wpAny_bind (wpAny_pyNext_enum_itemD (s := { s with heap := h, toks := tk }) D he st hlt ne nf fun x g' t' px ho st' ht hz kp => go x g' _ px ⟨_, h.objs.size, false, _, ho, ht, ?_, ?_, ?_⟩ st' ⟨_, ht⟩ hz kp)
      · exact Nat.ne_of_gt (Nat.lt_trans cS Sl)
      · exact Nat.ne_of_gt (Nat.lt_trans iS Sl)
      · exact Nat.ne_of_gt Sl
    · exact wpAny_bind (held_item (s := { s with heap := h, toks := tk }) D he hT t1 t2 st hlt ne nf fun x g' t' px ho st' ht hz kp => go x g' _ px ⟨_, T, true, oT, ho, kp T _ t1 t2 hT, t1, t2, t3⟩ st' ⟨_, ht⟩ hz kp)
end
theorem en_nolen : typeLookup (.type "enumerate") "__len__" = pure none := by rw [typeLookup_type, builtinLookup_eq_fast]; kernel_rfl
theorem en_nohint : typeLookup (.type "enumerate") "__length_hint__" = pure none := by rw [typeLookup_type, builtinLookup_eq_fast]; kernel_rfl
section
variable {prog : Program} {w : World} {A : Around} {E : Value → Shared → Prop} {s : Shared} {c it S : Addr} {fp : List Addr} {n : Nat} {P : Nat → Value → Prop} {St : Nat → Heap → Prop} {old : Value}
theorem en_hint (hT : s.TypeIs (.ref c) "enumerate") {Q : Bool → Shared → Prop} (h : Q true s) : wpAny (model prog w) A (Builtin.List.listLengthHint (.ref c)) Q E s := by
  unfold Builtin.List.listLengthHint
  refine wpAny_bind (wpAny_specialOf hT en_nolen ?_)
  refine wpAny_ite_split (fun hab => absurd hab (by decide)) (fun _ => ?_)
  refine wpAny_ite_split (fun hab => absurd hab (by decide)) (fun _ => ?_)
  refine wpAny_bind (wpAny_specialOf hT en_nohint ?_)
  exact wpAny_pure h
theorem en_extend {R : Result → Shared → Prop} (D : Draws prog w A.in1.in1 it fp n P St) (he : IsEnum s.heap c it 0 old) (st : St 0 s.heap) (ne : c ≠ it) (nf : c ∉ fp) (cS : c < S) (iS : it < S) (Sf : S ∉ fp) (hn : n ≤ sizeLine) (res : Value) (c₀ : Nat) (hS : s.heap.get? S = some { cls := .type "list", data := .seq #[] c₀ })
    (hR : ∀ h' tk acc cc as us, (∀ b o, b ≠ S → b ≠ c → b ≠ it → s.heap.get? b = some o → h'.get? b = some o) → h'.get? S = some { cls := .type "list", dict := none, data := .seq acc cc, slots := #[] } → LG S h' as us → us.length = n → (∀ j u, us[j]? = some u → P j u) →
      acc.toList = as.map Value.ref → R (.ok (.ret res)) { s with heap := h', toks := tk }) :
    wpAny (model prog w) A.in1 (Builtin.List.listExtendWith (.ref S) (.ref c) res)
      (fun fin s' => match fin with | .done f => R (.ok f) s' | .again c' => c'.quiet = true ∧ codeAny (model prog w) A c' R s') (fun e s' => R (.error e) s') s := by
  have ty : s.TypeIs (.ref c) "enumerate" := ⟨_, he, rfl⟩
  have Sc : S ≠ c := Nat.ne_of_gt cS
  have Si : S ≠ it := Nat.ne_of_gt iS
  have key : ∀ (h : Heap) (c₁ tk : Nat), (∀ b o, b ≠ S → s.heap.get? b = some o → h.get? b = some o) → h.get? S = some { cls := .type "list", data := .seq #[] c₁ } →
      codeAny (model prog w) A (.builtin "list.extend.loop" ⟨[.ref S, .ref c, res], []⟩) R { s with heap := h, toks := tk } := fun h c₁ tk hk hS₁ =>
    enum_loop D ne nf Sc Si Sf hn res hR n 0 h tk c₁ #[] [] [] (Nat.sub_zero _) (Nat.zero_le _) (D.frame _ _ _ st fun b hb o e => hk b o (fun q => Sf (q ▸ hb)) e) (.inl ⟨old, hk c _ (Ne.symm Sc) he⟩) (fun b o b1 _ _ e => hk b o b1 e) hS₁ rfl
      ⟨rfl, List.Pairwise.nil, (fun _ ha => nomatch ha), (fun j a hj => by simp at hj)⟩ rfl (fun j u hj => by simp at hj) cS iS
  unfold Builtin.List.listExtendWith
  refine wpAny_bind (wpAny_typeOf (T := "enumerate") ty ?_)
  have h1 : Builtin.List.listSameRef (.ref S) (.ref c) = false := by simp [Builtin.List.listSameRef, Sc]
  have h2 : (Value.type "enumerate" == Value.type "list") = false := by decide
  have h3 : (Value.type "enumerate" == Value.type "tuple") = false := by decide
  simp only [h1, h2, h3, Bool.or_false, Bool.false_eq_true, if_false]
  refine wpAny_bind (wpAny_pyIter_enum he ?_)
  refine wpAny_bind (wpAny_holding (en_hint ty ?_))
  refine wpAny_ite_split (fun _ => ?_) (fun hab => absurd rfl hab)
  refine wpAny_bind (wpAny_rule ?_)
  refine wpAny_bind ?_
  show wpAny _ _ (updateSeq S (·.push .none) >>= fun _ => updateSeq S (·.pop)) _ _ _
  refine wpAny_bind (wpAny_updateSeq hS rfl ?_)
  have hS₂ := Heap.get?_update_self (Obj.mapSeq (·.push Value.none)) hS rfl
  refine wpAny_updateSeq (hz := by seq_fits) hS₂ rfl ?_
  have hS₃ := Heap.get?_update_self (Obj.mapSeq (·.pop)) hS₂ rfl
  exact wpAny_pure ⟨plainId_quiet PySem.F.plain_extend_loop _, key _ _ _ (fun b o hb e => (Heap.get?_update_other _ _ (Ne.symm hb)).trans ((Heap.get?_update_other _ _ (Ne.symm hb)).trans e)) hS₃⟩
theorem en_init {R : Result → Shared → Prop} (D : Draws prog w A.in1.in1 it fp n P St) (he : IsEnum s.heap c it 0 old) (st : St 0 s.heap) (ne : c ≠ it) (nf : c ∉ fp) (cS : c < S) (iS : it < S) (Sf : S ∉ fp) (hn : n ≤ sizeLine) (hS : s.heap.get? S = some { cls := .type "list", data := .seq #[] })
    (hR : ∀ h' tk acc cc as us, (∀ b o, b ≠ S → b ≠ c → b ≠ it → s.heap.get? b = some o → h'.get? b = some o) → h'.get? S = some { cls := .type "list", dict := none, data := .seq acc cc, slots := #[] } → LG S h' as us → us.length = n → (∀ j u, us[j]? = some u → P j u) →
      acc.toList = as.map Value.ref → R (.ok (.ret .none)) { s with heap := h', toks := tk }) :
    wpAny (model prog w) A.in1 (Builtin.«list.__init__» ⟨[.ref S, .ref c], []⟩)
      (fun fin s' => match fin with | .done f => R (.ok f) s' | .again c' => c'.quiet = true ∧ codeAny (model prog w) A c' R s') (fun e s' => R (.error e) s') s := by
  show wpAny _ _ (do let old ← Builtin.List.listItems (.ref S); Builtin.List.listUpdate (.ref S) (fun _ => #[]); letGo old.toList.reverse; Builtin.List.listExtendWith (.ref S) (.ref c) .none) _ _ s
  have Sc : S ≠ c := Nat.ne_of_gt cS
  refine wpAny_bind ?_
  unfold Builtin.List.listItems
  refine wpAny_bind (wpAny_seqItems hS rfl (wpAny_pure ?_))
  show wpAny _ _ (updateSeq S (fun _ => #[]) >>= fun _ => letGo (#[] : Array Value).toList.reverse >>= fun _ => Builtin.List.listExtendWith (.ref S) (.ref c) .none) _ _ s
  refine wpAny_bind (wpAny_updateSeq hS rfl ?_)
  have hS' := Heap.get?_update_self (Obj.mapSeq (fun _ => (#[] : Array Value))) hS rfl
  have up : ∀ b o, b ≠ S → s.heap.get? b = some o → (s.heap.update S (Obj.mapSeq (fun _ => (#[] : Array Value)))).get? b = some o := fun b o hb e => (Heap.get?_update_other _ _ (Ne.symm hb)).trans e
  refine wpAny_bind (wpAny_letGo ?_)
  exact en_extend D (up c _ (Ne.symm Sc) he) (D.frame _ _ _ st fun b hb o e => up b o (fun q => Sf (q ▸ hb)) e) ne nf cS iS Sf hn .none _ hS' fun h' tk acc cc as us hk => hR h' tk acc cc as us fun b o b1 b2 b3 e => hk b o b1 b2 b3 (up b o b1 e)
theorem en_list {Q : Value → Shared → Prop} (D : Draws prog w A.in1.in1.in1 it fp n P St) (he : IsEnum s.heap c it 0 old) (st : St 0 s.heap) (ne : c ≠ it) (nf : c ∉ fp) (Sf : s.heap.objs.size ∉ fp) (il : it < s.heap.objs.size) (hn : n ≤ sizeLine)
    (hQ : ∀ h' tk acc cc as us, (∀ b o, b ≠ c → b ≠ it → s.heap.get? b = some o → h'.get? b = some o) → h'.get? s.heap.objs.size = some { cls := .type "list", dict := none, data := .seq acc cc, slots := #[] } → LG s.heap.objs.size h' as us → us.length = n → (∀ j u, us[j]? = some u → P j u) →
      acc.toList = as.map Value.ref → Q (.ref s.heap.objs.size) { s with heap := h', toks := tk }) :
    wpAny (model prog w) A (call (.type "list") [.ref c]) Q E s := by
  refine callType_codes (Q₁ := fun obj s₁ => obj = .ref s.heap.objs.size ∧ s₁ = { s with heap := s.heap.push { cls := .type "list", data := .seq #[] } }) PySem.F.called_list (PySem.F.typeCall_list_1 _) PySem.F.entry_list_init
    (code_list_new _ ⟨rfl, rfl⟩) fun obj s₁ h₁ => ?_
  obtain ⟨rfl, rfl⟩ := h₁
  have hS : (s.heap.push { cls := .type "list", data := .seq #[] }).get? s.heap.objs.size = some { cls := .type "list", data := .seq #[] } := Heap.get?_push_size _ rfl
  have more : ∀ b o, s.heap.get? b = some o → (s.heap.push { cls := .type "list", data := .seq #[] }).get? b = some o := fun b o e => Heap.get?_push_of_some _ e
  refine ⟨⟨_, hS, rfl⟩, PySem.F.args_list_init_2 _ _, en_init (A := A.in1) D (more c _ he) (D.frame _ _ _ st fun b _ o e => more b o e) ne nf (Heap.lt_size he) il Sf hn hS fun h' tk acc cc as us hk h1 h2 h3 h4 h5 => ?_⟩
  exact ⟨rfl, hQ h' tk acc cc as us (fun b o b2 b3 e => hk b o (Nat.ne_of_lt (Heap.lt_size e)) b2 b3 (more b o e)) h1 h2 h3 h4 h5⟩
end
/-- what a store keeps while new objects come -/
theorem Ev.more {K : PySem.W.Frag} {L : Lnk} {ω : Wd} (r : Rel K L ω) {H' : Hp} (hk : ∀ b o, ω.H b = some o → H' b = some o) : Ev K ω { ω with H := H' } where
  len := Nat.le_refl _
  mp := fun _ _ => rfl
  pr := rfl
  prH := fun a h => by
    obtain ⟨o, e⟩ := r.held a h
    exact (hk a o e).trans e.symm
  lst := fun a vs h f => ⟨hk _ _ h, f⟩
  dic := fun a ws h => ⟨h.1.imp (hk _ _) fun ⟨o, e⟩ => ⟨o, hk _ _ e⟩, h.2⟩
  tup := fun a vs h => hk _ _ h
  lck := fun a o u h => hk _ _ h
  xd := fun a vs h => hk _ _ h
theorem Rel.more {K : PySem.W.Frag} {L : Lnk} {ω : Wd} (r : Rel K L ω) {H' : Hp} (hk : ∀ b o, ω.H b = some o → H' b = some o) : Rel K L { ω with H := H' } where
  live := fun n u h => by
    obtain ⟨o, e, _⟩ := (r.live n u h).some_
    exact OR.mono (a' := 0) (Ev.more r hk) (r.live n u h) ((hk _ _ e).trans e.symm)
  inj := r.inj
  priv := r.priv
  held := fun a h => let ⟨o, e⟩ := r.held a h; ⟨o, hk _ _ e⟩
def gone : Obj := { cls := .none, data := .freed }
theorem gone_off {h : Heap} {b : Addr} {o : Obj} (e : (h.push gone).get? b = some o) : h.get? b = some o := by
  simp only [Heap.get?, Heap.push, Array.getElem?_push] at e ⊢
  by_cases hb : b = h.objs.size
  · rw [if_pos hb] at e
    simp [gone] at e
  · rw [if_neg hb] at e
    exact e
def enK (xs : List V) : List (Key × V) := xs.zipIdx.map fun p => (.inl (p.2 : Int), p.1)
def enU (us : List Value) : List (Key × Value) := us.zipIdx.map fun p => (.inl (p.2 : Int), p.1)
theorem en_kv : ∀ (k : Nat) {xs : List V} {us : List Value}, Vals xs us → KV ((xs.zipIdx k).map fun p => ((.inl (p.2 : Int) : Key), p.1)) ((us.zipIdx k).map fun p => ((.inl (p.2 : Int) : Key), p.1))
  | _, _, _, .nil => .nil
  | k, _, _, .cons r t => .cons ⟨rfl, r⟩ (en_kv (k + 1) t)
def tLenu (K : PySem.W.Frag) (te : TE) : TE := fun σ H Q => te σ H fun v H1 => ∃ a xs, v = .ref a ∧ (SqL K H1 a xs ∨ SqT K H1 a xs) ∧
  ∀ (H' : Hp) (p : Addr) (ts : List Addr), (∀ b o, H1 b = some o → H' b = some o) → H1 p = none → H' p = some (.lst (ts.map V.ref)) → Paired (fun (t : Addr) (q : Key × V) => H' t = some (.tup [kV q.1, q.2])) ts (enK xs) → Q (.ref p) H'
section
variable {X : Cx} {e : Expr} {te : TE} {p p2 pos2 pos : Pos}
/-- list(enumerate(e)) -/
theorem pe_lenu (hc : X.calm = true) (he : PE X e te) (hg : Gl X "list") (hm : X.mg "list" = none) (hg2 : Gl X "enumerate") (hm2 : X.mg "enumerate" = none) (st : starEach [e] X.env = [(false, eval e X.env)])
    (st2 : starEach [.Call (.Name "enumerate" p2) [e] [] pos2] X.env = [(false, eval (.Call (.Name "enumerate" p2) [e] [] pos2) X.env)]) :
    PE X (.Call (.Name "list" p) [.Call (.Name "enumerate" p2) [e] [] pos2] [] pos) (tLenu X.K te) := by
  refine ⟨fun pins s σ H Q I h => Call_ (ld_blt I hg hm (by decide +kernel : bootBuiltins "list" = some (.type "list")) (PyProof.Rows.callWith_type1 ?_ st2 rfl))⟩
  rw [st2]
  show wpAny _ _ (spliced ((false, eval (.Call (.Name "enumerate" p2) [e] [] pos2) X.env) :: backTo pos (starEach [] X.env))) _ _ s
  refine Calls.spliced_cons ?_
  refine Call_ (ld_blt I hg2 hm2 boot_enumerate (PyProof.Rows.callWith_type1 ?_ st rfl))
  rw [st]
  refine Calls.spliced_cons ?_
  refine thn (he.run pins s σ H _ I h) fun u s1 ⟨v, H1, I1, r, a, xs, ev, hq, q⟩ => ?_
  subst ev
  obtain ⟨S, hv, ok, hz⟩ : ∃ S : Sr, S.val = .ref a ∧ S.has X.K H1 xs ∧ xs.length ≤ sizeLine := by
    rcases hq with z | z
    · obtain ⟨its, rv, _, hz⟩ := I1.list z
      exact ⟨.lst a, rfl, z, by have := rv.length; omega⟩
    · obtain ⟨its, rv, _, hz⟩ := I1.tuple z
      exact ⟨.tup a, rfl, z, by have := rv.length; omega⟩
  refine Calls.spliced_nil ?_
  obtain ⟨o, Hh, B, h1, h2, h3⟩ := Sr.begins I1 ok (u := u) (by rw [hv]; exact r)
  have hz1 : (s1.heap.push o).objs.size = s1.heap.objs.size + 1 := Heap.size_push ..
  refine callType_new F.called_enumerate (by decide) (F.typeCall_enumerate_1 _) (F.newCall_enumerate_1 _) (fun obj => F.args_object_init_2 obj _) F.entry_enumerate_new (enum_made B) ⟨h1, ?_⟩
  show _ ∧ _
  rw [hz1]
  have hen : IsEnum ((s1.heap.push o).push { cls := .type "enumerate", data := .fields #[.none, .bool false, .ref s1.heap.objs.size, rawInt 0, .none, .none] }) (s1.heap.objs.size + 1) s1.heap.objs.size 0 .none := by
    have z := Heap.get?_push_size (s1.heap.push o) (o := { cls := .type "enumerate", data := .fields #[.none, .bool false, .ref s1.heap.objs.size, rawInt 0, .none, .none] }) rfl
    rwa [hz1] at z
  have hit := h2 ((s1.heap.push o).push { cls := .type "enumerate", data := .fields #[.none, .bool false, .ref s1.heap.objs.size, rawInt 0, .none, .none] }) s1.heap.objs.size (Heap.get?_push_of_some _ (Heap.get?_push_size _ B.free))
  have hz2 : ((s1.heap.push o).push { cls := .type "enumerate", data := .fields #[.none, .bool false, .ref s1.heap.objs.size, rawInt 0, .none, .none] }).objs.size = s1.heap.objs.size + 2 := by rw [Heap.size_push, hz1]
  have keep : ∀ b ob, s1.heap.get? b = some ob → ((s1.heap.push o).push { cls := .type "enumerate", data := .fields #[.none, .bool false, .ref s1.heap.objs.size, rawInt 0, .none, .none] }).get? b = some ob := fun b ob y => Heap.get?_push_of_some _ (Heap.get?_push_of_some _ y)
  refine ⟨⟨_, hen, rfl⟩, ?_⟩
  refine Calls.spliced_nil ?_
  generalize (s1.heap.push o).push { cls := .type "enumerate", data := .fields #[.none, .bool false, .ref s1.heap.objs.size, rawInt 0, .none, .none] } = g at hen hit hz2 keep ⊢
  obtain ⟨fp, n, Pd, St, D, hn, hst, back, hmem, far, rel⟩ := Sr.draws (I1.kept (t' := s1.toks) keep) ok (h3 _ (Nat.le_refl _)) hit (A := X.A.in1.in1.in1) (I1.ok.hd hc)
  refine en_list D hen hst (Nat.succ_ne_self _) (far _ (h3 _ (Nat.le_succ _)) (Nat.succ_ne_self _)) (far _ (h3 _ (by show _ ≤ g.objs.size; omega)) (by show g.objs.size ≠ _; omega)) (by show _ < g.objs.size; omega) (by omega) fun h' tk acc cc as us hk hS hG hl hP hacc => ?_
  have eS : ((s1.heap.push gone).push gone).objs.size = g.objs.size := by rw [Heap.size_push, Heap.size_push, hz2]
  have rv : Vals xs us := vals_of_idx xs us (by omega) fun j w hj => rel j w (hP j w hj)
  obtain ⟨H', k1, k2, k3, k4, k5, k6, J⟩ := LiI.items_laid (tk := tk) (s := { s1 with heap := (s1.heap.push gone).push gone }) (kvs := enK xs) (vs := enU us) (I1.kept (t' := s1.toks) fun b ob y => Heap.get?_push_of_some _ (Heap.get?_push_of_some _ y)) (by simp [enK]; exact hz) (en_kv 0 rv)
    (fun b ob y => by
      have y1 := gone_off (gone_off y)
      have lt := Heap.lt_size y1
      exact hk b ob (Nat.ne_of_lt (Nat.lt_succ_of_lt lt)) (Nat.ne_of_lt lt) (keep b ob y1)) (by rw [eS]; exact hS) (by simp [enU, hG.len]) ⟨hG.rise, fun b hb => by rw [eS]; exact hG.above b hb, fun j b hj => by
        obtain ⟨t, w, e1, e2⟩ := hG.at_ j b hj
        exact ⟨.int (j : Int) t, .inl (j : Int), w, by simp [enU, e1], by simp [mixKind, keyIs, Value.isInt], e2⟩⟩ hacc
  show EP X pins σ Q (.ref g.objs.size) _
  rw [← eS]
  exact ⟨.ref _, H', J, rfl, q H' _ as k1 k2 k5 k6⟩
end
theorem i_lenu {K : PySem.W.Frag} {C : Cn} {W : WX} {σ : L2.St} {H : Hp} {Q : VK} {ca : CE} (h : tE K C W (.lenu ca) σ H Q) : tLenu K (tE K C W ca) σ H Q := by
  obtain ⟨ω, e, rfl, r, er, h⟩ := h
  refine tE.step r er h fun ω1 d1 v1 e1 r1 q1 h1 => ?_
  obtain ⟨d, hd, h2⟩ := Rn.lift h1
  cases e2 : asSeq ω1.S d1 with
  | none => rw [e2] at hd; cases hd
  | some ds =>
    rw [e2] at hd
    cases hd
    obtain ⟨a, vs, rfl, hq, rs⟩ := asSeq_R r1 e2 q1
    refine ⟨a, vs, rfl, hq, fun H' p ts hk hn hp hT => ?_⟩
    have ev := Ev.more r1 hk
    refine h2 { ω1 with H := H' } ev (Rel.more r1 hk) rfl (.ref p) ⟨p, _, rfl, ⟨hp, fun n u h => r1.notM hn h, r1.notB hn⟩, ?_⟩
    have go : ∀ (k : Nat) (ds : List D) (vs : List V) (ts : List Addr), RVs K C.L ω1 ds vs → Paired (fun (t : Addr) (q : Key × V) => H' t = some (.tup [kV q.1, q.2])) ts ((vs.zipIdx k).map fun p => ((.inl (p.2 : Int) : Key), p.1)) →
        RVs K C.L { ω1 with H := H' } ((ds.zipIdx k).map fun p => D.tup [.int (p.2 : Int), p.1]) (ts.map V.ref) := by
      intro k ds
      induction ds generalizing k with
      | nil =>
        intro vs ts h1 h2
        cases h1
        cases h2
        rfl
      | cons d ds ih =>
        intro vs ts h1 h2
        obtain ⟨v, rest, rfl, h3, h4⟩ := h1
        cases h2 with
        | cons g1 g2 => exact ⟨_, _, rfl, ⟨_, _, rfl, .inl g1, _, _, rfl, rfl, _, _, rfl, RV.mono ev d h3, rfl⟩, ih (k + 1) rest _ h4 g2⟩
    exact go 0 ds vs ts rs hT
end Mi
end
section
set_option Elab.async false
set_option linter.all false
set_option maxRecDepth 100000
set_option maxHeartbeats 4000000
/-! Own exceptions: how they are made. -/
namespace Mi
open PySem PySem.Spec PyProof.Rows L2
/-- what an exception keeps, in the model -/
def mkV : List (Sg × Nat) → List V → List (Str × V) → Option (List (Str × V))
  | [], _, acc => some acc
  | (f, k) :: r, vs, acc => match vs[k]? with
    | some v => mkV r vs ((toStr f, v) :: acc)
    | none => none
section
variable {X : Cx} {o e : Expr} {es : List Expr} {to te : TE} {ta : TA} {p p' p1 p2 pos : Pos}
/-- Base.__init__(self, ..), the base an own class without own __init__ -/
theorem pe_ownInit {B : Str} {CB : Addr} (hg : Gl X B) (hm : X.mg B = some (.ref CB)) (hdb : (B == ("__debug__" : Str)) = false)
    (h1 : PySem.W.specialIn X.K (.ref CB) "__getattribute__" = some (some (.builtin "type.__getattribute__"))) (h2 : PySem.W.readsIn X.K CB (.type "type") = true)
    (h3 : PySem.W.findCls X.K (.ref CB) (.type "type") "__init__" = some (.val (.builtin "ValueError.__init__"))) (ha : PA X (e :: es) ta)
    (hfew : methodCallForm ((e :: es).length + ([] : List Keyword).length) (backTo pos (starEach (e :: es) X.env)) (backToKw pos (keywordEach [] X.env)) = true) (hline : (p2.endLine == pos.line) = true)
    (he : starEach (e :: es) X.env = (false, eval e X.env) :: starEach es X.env := by rfl) (hpl : (backTo pos (starEach es X.env)).any (·.1) = false := by rfl) :
    PE X (.Call (.Attribute (.Name B p1) "__init__" p2) (e :: es) [] pos) (tVeI X.K ta) := by
  refine ⟨fun pins s σ H Q I h => ?_⟩
  have hbase : attributeBase (.Name B p1) "__init__" X.env (eval (.Name B p1) X.env) = eval (.Name B p1) X.env := by rfl
  rw [arm_eval_Call, hbase]
  refine wpAny_bind (ld_glob I hg hm ?_ hdb)
  refine wpAny_bind (wpAny_standAt ?_)
  have hpos : methodCallPos true (.Name B p1) X.env p2 pos = pure pos := by unfold methodCallPos; simp [hline]
  unfold methodCall
  rw [hfew]
  refine wpAny_bind (wpAny_holding (PySem.W.method_cls I.kIn h1 (PySem.W.cls_value I.kIn h2 h3 (by decide +kernel) ?_)))
  refine wpAny_bind (wpAny_of_eq hpos ?_)
  show wpAny _ _ (callWith pos (Value.builtin "ValueError.__init__") [] (backTo pos (starEach (e :: es) X.env)) []) _ _ _
  refine PyProof.Rows.callWith_method1 (thn (ha.run pos pins _ σ H _ (I.tok _) h) fun us s1 ⟨vs, H1, I1, r1, a, C, ws, ev, hl, T, ea, q⟩ => ?_) he hpl
  subst ev
  cases r1 with
  | @cons _ u0 _ ur ra rw' =>
    obtain rfl : u0 = Value.ref a := ra
    have hlen : ur.length ≤ sizeLine := by
      rw [← Paired.length rw', sizeLine_eq]
      omega
    exact oinit_ok T I1 ea hlen fun s' J => ⟨.non, H1, J, rfl, q⟩
end

theorem Ss.imp' {X : Cx} {st : List Stmt} {t u : TS} (h : PSs X st t) (k : ∀ D σ H, u D σ H → t D σ H) : PSs X st u := ⟨fun pins s σ H D I z => h.run pins s σ H D I (k D σ H z)⟩
def dbgN : Str := "__debug__"
def cldN : Str := "__classdict__"
def okNm (N : List Str) (sc : Scope) (i : Nat) (x : Str) : Bool := decide (N[i]? = some x) && (decide (sc.names.lookup x = some .local) && (!(x == dbgN) && !(x == cldN)))
/-- the fields are stored -/
def stoS (N : List Str) (sc : Scope) : List (Sg × Nat) → List Stmt → Bool
  | [], ss => ss.isEmpty
  | (f, k) :: r, ss => (match ss with
    | .Assign [.Attribute (.Name s _) f' _] (.Name y _) _ :: ss => decide (f' = toStr f) && (okNm N sc 0 s && (okNm N sc (k + 1) y && stoS N sc r ss))
    | _ => false)
def Sl (σ : L2.St) (a : Addr) (ws : List V) : Prop := σ[0]? = some (some (.ref a)) ∧ ∀ (k : Nat) (w : V), ws[k]? = some w → σ[k + 1]? = some (some w)
def tSto (K : PySem.W.Frag) (fl : List (Sg × Nat)) : TS := fun D σ H => ∃ (a C : Addr) (ws : List V) (acc res : List (Str × V)) (dx : Addr), Sl σ a ws ∧ OexC K C ∧ (∀ f ∈ fl, PySem.W.findIn K (.ref C) (toStr f.1) = some none) ∧ acc.length + fl.length ≤ 100 ∧
  H a = some (exo a C (some dx)) ∧ H dx = some (exd dx acc) ∧ dx ≠ a ∧ mkV fl ws acc = some res ∧ ∀ H', H' a = some (exo a C (some dx)) → H' dx = some (exd dx res) → (∀ b, b ≠ a → b ≠ dx → H' b = H b) → D.nx σ H'
def tSto0 (K : PySem.W.Frag) (fl : List (Sg × Nat)) : TS := fun D σ H => ∃ (a C : Addr) (ws : List V) (res : List (Str × V)), Sl σ a ws ∧ OexC K C ∧ (∀ f ∈ fl, PySem.W.findIn K (.ref C) (toStr f.1) = some none) ∧ fl.length ≤ 100 ∧
  H a = some (exo a C none) ∧ mkV fl ws [] = some res ∧ ∀ H' dx, H dx = none → dx ≠ a → H' a = some (exo a C (some dx)) → H' dx = some (exd dx res) → (∀ b, b ≠ a → b ≠ dx → H' b = H b) → D.nx σ H'
theorem okNm_of {X : Cx} {N : List Str} {i : Nat} {x : Str} (hN : X.N = N) (h : okNm N X.env.scope i x = true) : X.N[i]? = some x ∧ Vis X.env.scope x ∧ (x == ("__debug__" : Str)) = false ∧ (x == ("__classdict__" : Str)) = false := by
  simp only [okNm, Bool.and_eq_true, decide_eq_true_eq, Bool.not_eq_true'] at h
  exact ⟨by rw [hN]; exact h.1, .inl h.2.1, h.2.2.1, h.2.2.2⟩
theorem pss_sto {X : Cx} {N : List Str} (hN : X.N = N) : ∀ (fl : List (Sg × Nat)) (ss : List Stmt), stoS N X.env.scope fl ss = true → PSs X ss (tSto X.K fl)
  | [], ss, h => by
    have h : ss.isEmpty = true := h
    cases ss with
    | cons _ _ => cases h
    | nil =>
      refine Ss.imp' pss_nil fun D σ H z => ?_
      obtain ⟨a, C, ws, acc, res, dx, _, _, _, _, h1, h2, _, hm, hq⟩ := z
      cases hm
      exact hq H h1 h2 fun _ _ _ => rfl
  | (f, k) :: r, ss, h => by
    unfold stoS at h
    split at h
    · rename_i s p1 f' p2 y p3 p4 ss
      simp only [Bool.and_eq_true, decide_eq_true_eq] at h
      obtain ⟨rfl, h1, h2, h3⟩ := h
      obtain ⟨a1, a2, a3, a4⟩ := okNm_of hN h1
      obtain ⟨b1, b2, b3, b4⟩ := okNm_of hN h2
      refine Ss.imp' (pss_cons (ps_ost (pe_var a1 a2 a3 a4) (pe_var b1 b2 b3 b4)) (pss_sto hN r ss h3)) fun D σ H z => ?_
      obtain ⟨a, C, ws, acc, res, dx, sl, T, hno, hl, h4, h5, hne, hm, hq⟩ := z
      unfold mkV at hm
      split at hm
      · rename_i v hv
        refine ⟨v, sl.2 k v hv, .ref a, sl.1, a, C, rfl, T, hno _ (List.mem_cons_self ..), .inr ⟨dx, acc, h4, h5, by simp only [List.length_cons] at hl; omega, ?_⟩⟩
        refine ⟨a, C, ws, (toStr f, v) :: acc, res, dx, sl, T, fun g hg => hno g (List.mem_cons_of_mem _ hg), by simp only [List.length_cons] at hl ⊢; omega, by rw [upd_ne (Ne.symm hne)]; exact h4, upd_same, hne, hm, ?_⟩
        intro H' q1 q2 q3
        exact hq H' q1 q2 fun b hb1 hb2 => (q3 b hb1 hb2).trans (upd_ne hb2)
      · cases hm
    · cases h
theorem pss_sto0 {X : Cx} {N : List Str} (hN : X.N = N) {fl : List (Sg × Nat)} {ss : List Stmt} (hf : fl ≠ []) (h : stoS N X.env.scope fl ss = true) : PSs X ss (tSto0 X.K fl) := by
  match fl, hf with
  | (f, k) :: r, _ =>
    unfold stoS at h
    split at h
    · rename_i s p1 f' p2 y p3 p4 ss
      simp only [Bool.and_eq_true, decide_eq_true_eq] at h
      obtain ⟨rfl, h1, h2, h3⟩ := h
      obtain ⟨a1, a2, a3, a4⟩ := okNm_of hN h1
      obtain ⟨b1, b2, b3, b4⟩ := okNm_of hN h2
      refine Ss.imp' (pss_cons (ps_ost (pe_var a1 a2 a3 a4) (pe_var b1 b2 b3 b4)) (pss_sto hN r ss h3)) fun D σ H z => ?_
      obtain ⟨a, C, ws, res, sl, T, hno, hl, h4, hm, hq⟩ := z
      unfold mkV at hm
      split at hm
      · rename_i v hv
        refine ⟨v, sl.2 k v hv, .ref a, sl.1, a, C, rfl, T, hno _ (List.mem_cons_self ..), .inl ⟨h4, fun dx hd hne => ?_⟩⟩
        refine ⟨a, C, ws, [(toStr f, v)], res, dx, sl, T, fun g hg => hno g (List.mem_cons_of_mem _ hg), by simp only [List.length_cons, List.length_nil] at hl ⊢; omega, upd_same, by rw [upd_ne hne]; exact upd_same, hne, hm, ?_⟩
        intro H' q1 q2 q3
        exact hq H' dx hd hne q1 q2 fun b hb1 hb2 => by rw [q3 b hb1 hb2, upd_ne hb1, upd_ne hb2]
      · cases hm
    · cases h

/-- an __init__ that calls its base's and stores the fields -/
def initB (N : List Str) (sc : Scope) (base : Str) (fl : List (Sg × Nat)) : List Stmt → Bool
  | .Expr (.Call (.Attribute (.Name b _) f p2) [.Name s _, .Constant (.str _) _ _] [] pos) _ :: ss => decide (b = base) && (decide (f = ("__init__" : Str)) && (okNm N sc 0 s && (decide (sc.names.lookup b = some .globalImplicit) && (!(b == dbgN) && ((p2.endLine == pos.line) && (!fl.isEmpty && stoS N sc fl ss))))))
  | _ => false
/-- the promise of such an __init__ -/
def spXin (K : PySem.W.Frag) (fl : List (Sg × Nat)) (np : Nat) : Sp := fun vs H Q _ => ∃ (a C : Addr) (ws : List V) (res : List (Str × V)), vs = .ref a :: ws ∧ ws.length = np ∧ OexC K C ∧ (∀ f ∈ fl, PySem.W.findIn K (.ref C) (toStr f.1) = some none) ∧ fl.length ≤ 100 ∧
  H a = some (exo a C none) ∧ mkV fl ws [] = some res ∧ ∀ H' dx, H dx = none → dx ≠ a → H' a = some (exo a C (some dx)) → H' dx = some (exd dx res) → (∀ b, b ≠ a → b ≠ dx → H' b = H b) → Q .non H'
/-- the base class's facts -/
structure BaseX (K : PySem.W.Frag) (mg : Str → Option Value) (B : Str) (CB : Addr) : Prop where
  mg : mg B = some (.ref CB)
  ga : PySem.W.specialIn K (.ref CB) "__getattribute__" = some (some (.builtin "type.__getattribute__"))
  rd : PySem.W.readsIn K CB (.type "type") = true
  fi : PySem.W.findCls K (.ref CB) (.type "type") "__init__" = some (.val (.builtin "ValueError.__init__"))
theorem initOk {P : Program} {w : World} {K : PySem.W.Frag} {mg : Str → Option Value} {base : Heap} {f : Addr} {name qual : Str} {params : Arguments} {body : List Stmt} {scope : Scope} {dV kV doc pm cdv ct oc : Value} {an od : Option Addr} {osl : Array (Option Value)} {N : List Str} {B : Str} {CB : Addr} {fl : List (Sg × Nat)} {np : Nat}
    (lk : K.lookup f = some ⟨oc, od, .func (PySem.W.fnOf name qual params body scope dV kV doc pm an cdv ct), osl⟩) (hcd : PySem.W.codeIn K cdv qual = true) (S : FnScope N N scope) (hN : N.length = np + 1) (bx : BaseX K mg B CB) (hb : initB N scope B fl body = true) :
    FnOk P w K mg base CX0 1 f (PySem.W.fnOf name qual params body scope dV kV doc pm an cdv ct) N (spXin K fl np) := by
  refine fn_of lk hcd S (fun vs H Q E h => ?_) fun A outer s H vs Q E hr h => ?_
  · obtain ⟨a, C, ws, res, rfl, hl, _⟩ := h
    rw [List.length_cons, hl, hN]
  · unfold initB at hb
    split at hb
    · rename_i b p1 f' p2 s' p3 m j p4 pos p5 ss
      simp only [Bool.and_eq_true, decide_eq_true_eq, Bool.not_eq_true'] at hb
      obtain ⟨rfl, rfl, h1, h2, h3, h4, h5, h6⟩ := hb
      have hX : (cxOf CX0 P w K mg base N qual scope f cdv A outer s H E).N = N := rfl
      obtain ⟨a1, a2, a3, a4⟩ := okNm_of (X := cxOf CX0 P w K mg base N qual scope f cdv A outer s H E) hX h1
      have hfl : fl ≠ [] := by intro z; rw [z] at h5; cases h5
      refine ⟨_, pss_cons (ps_expr (pe_ownInit (X := cxOf CX0 P w K mg base N qual scope f cdv A outer s H E) h2 bx.mg h3 bx.ga bx.rd bx.fi (pa_cons (pe_var a1 a2 a3 a4) (pa_cons pe_str pa_nil)) (by rfl) h4) rfl) (pss_sto0 hX hfl h6), ?_⟩
      obtain ⟨a, C, ws, res, rfl, hl, T, hno, hf, hH, hm, hq⟩ := h
      have sl : Sl (start N (V.ref a :: ws)) a ws := by
        refine ⟨rfl, fun k w hk => ?_⟩
        have hk' := (List.getElem?_eq_some_iff.mp hk).1
        show (((V.ref a :: ws).map some ++ List.replicate _ none))[k + 1]? = _
        rw [List.getElem?_append_left (by simp; omega), List.getElem?_map, List.getElem?_cons_succ, hk]
        rfl
      refine ⟨.ref a, sl.1, ?_⟩
      exact ⟨a, C, [.str m], rfl, by simp, T, hH, ⟨a, C, ws, res, sl, T, hno, hf, hH, hm, hq⟩⟩
    · cases hb
end Mi
end
section
set_option Elab.async false
set_option linter.all false
set_option maxRecDepth 100000
set_option maxHeartbeats 4000000
/-! Exceptions: raised, handled. -/
namespace Mi
open PySem PySem.Spec PyProof.Rows L2
def Lnk.at_ (L : Lnk) (t : Option Hot) : Lnk := { L with hot := t }
section
variable {K : PySem.W.Frag} {L : Lnk} {ω : Wd} {t : Option Hot}
mutual
theorem RV_at : ∀ (d : D) {v : V}, RV K (L.at_ t) ω d v ↔ RV K L ω d v
  | .non, _ => Iff.rfl
  | .bl _, _ => Iff.rfl
  | .int _, _ => Iff.rfl
  | .str _, _ => Iff.rfl
  | .ty _, _ => Iff.rfl
  | .glo _, _ => Iff.rfl
  | .ref _, _ => Iff.rfl
  | .xcp _ _, _ => Iff.rfl
  | .tup ds, v => by simp only [RV, RVs_at ds]
  | .lst ds, v => by simp only [RV, RVs_at ds]
  | .lck ds, v => by simp only [RV, RVs_at ds]
  | .dct kvs, v => by simp only [RV, RVk_at kvs]
  | .kdc kvs, v => by simp only [RV, RVz_at kvs]; rfl
theorem RVs_at : ∀ (ds : List D) {vs : List V}, RVs K (L.at_ t) ω ds vs ↔ RVs K L ω ds vs
  | [], _ => Iff.rfl
  | d :: ds, vs => by simp only [RVs, RV_at d, RVs_at ds]
theorem RVk_at : ∀ (kvs : List (D × D)) {ws : List (Key × V)}, RVk K (L.at_ t) ω kvs ws ↔ RVk K L ω kvs ws
  | [], _ => Iff.rfl
  | (a, b) :: r, ws => by simp only [RVk, RV_at b, RVk_at r]
theorem RVz_at : ∀ (kvs : List (Sg × D)) {f : Str → Option (Option Value)}, RVz K (L.at_ t) ω kvs f ↔ RVz K L ω kvs f
  | [], _ => Iff.rfl
  | (x, d) :: r, f => by simp only [RVz, RV_at d, RVz_at r]
end
theorem OR_at {a : Addr} {o : SO} : OR K (L.at_ t) ω a o ↔ OR K L ω a o := by
  cases o with
  | lst ds => simp only [OR, RVs_at]
  | dct kvs lk => cases lk <;> simp only [OR, RVk_at]
  | ins c fs => simp only [OR, RV_at]; rfl
theorem Rel_at : Rel K (L.at_ t) ω ↔ Rel K L ω := ⟨fun r => ⟨fun n o h => OR_at.mp (r.live n o h), r.inj, r.priv, r.held⟩, fun r => ⟨fun n o h => OR_at.mpr (r.live n o h), r.inj, r.priv, r.held⟩⟩
theorem XR_at {fs : List (Sg × D)} {dx : Option Addr} : XR K (L.at_ t) ω fs dx ↔ XR K L ω fs dx := by simp only [XR, RV_at]
end
/-- the context of a suite -/
def Cn.hotAt (C : Cn) (i : Nat) (a : Addr) (d : Option Addr) (c : Nat) (fs : List (Sg × D)) : Cn := ⟨C.L.at_ (some ⟨i, a, d, c, fs⟩), { C.P with xc := some (c, fs) }, C.F⟩
/-! ### raise -/
section
variable {K : PySem.W.Frag} {L : Lnk} {ω : Wd}
theorem lookup_put_sg {α : Type} {f g : Sg} {d : α} {acc : List (Sg × α)} : ((f, d) :: acc).lookup g = if g = f then some d else acc.lookup g := by
  rw [List.lookup_cons]
  by_cases h : g = f
  · subst h; simp
  · rw [if_neg h, beq_false_of_ne h]
theorem mkX_mkV : ∀ {fl : List (Sg × Nat)} {ds : List D} {vs : List V} {acc : List (Sg × D)} {av : List (Str × V)} {fs : List (Sg × D)}, RVs K L ω ds vs → mkX fl ds acc = some fs → (∀ f d, acc.lookup f = some d → ∃ v, av.lookup (toStr f) = some v ∧ RV K L ω d v) →
    ∃ res, mkV fl vs av = some res ∧ ∀ f d, fs.lookup f = some d → ∃ v, res.lookup (toStr f) = some v ∧ RV K L ω d v
  | [], ds, vs, acc, av, fs, rs, h, ha => by cases h; exact ⟨av, rfl, ha⟩
  | (f, k) :: r, ds, vs, acc, av, fs, rs, h, ha => by
    unfold mkX at h
    split at h
    · rename_i d hd
      obtain ⟨v, hv, rv⟩ := rs.get hd
      unfold mkV
      rw [hv]
      refine mkX_mkV rs h fun g x hg => ?_
      rw [lookup_put_sg] at hg
      rw [lookup_put]
      by_cases e : g = f
      · subst e
        rw [if_pos rfl] at hg
        cases hg
        exact ⟨v, if_pos rfl, rv⟩
      · rw [if_neg e] at hg
        rw [if_neg fun z => e (toStr_inj z)]
        exact ha g x hg
    · cases h
end
section
variable {K : PySem.W.Frag} {C : Cn} {W : WX} {ω : Wd} {σ : L2.St} {H : Hp} {D : Ends}
/-- the facts of a class that may be raised -/
structure RaiseX (K : PySem.W.Frag) (C : Addr) (fl : List (Sg × Nat)) : Prop where
  cls : OexC K C
  no : ∀ f ∈ fl, PySem.W.findIn K (.ref C) (toStr f.1) = some none
  few : fl.length ≤ 100
theorem i_rse {c np : Nat} {es : List CE} {fl : List (Sg × Nat)} (T : RaiseX K (C.L.ga c) fl) (hx : C.P.xin c = some (np, fl)) (h : tS K C W (.rse c es) D σ H) :
    tMkO (C.L.ga c) (spXin K fl np) [] (tA K C W es) σ H fun cls d H' => W cls d σ H' := by
  obtain ⟨ω, e, rfl, r, er, h⟩ := h
  simp only [evS, hx] at h
  refine ⟨ω, e, rfl, r, er, (RnS.toS er h).imp fun ω1 ds ev r1 h1 vs rs => ?_⟩
  split at h1
  · rename_i hl
    split at h1
    · rename_i fs hfs
      obtain ⟨res, hm, hres⟩ := mkX_mkV (av := []) rs hfs fun f d q => by cases q
      have hvl := rs.length
      refine ⟨by omega, fun a ha => ⟨a, C.L.ga c, vs, res, by rw [List.append_nil], by omega, T.cls, T.no, T.few, upd_same, hm, fun H' dx hdx hne q1 q2 q3 => ⟨rfl, dx, res, q1, q2, ?_, ?_⟩⟩⟩
      · rw [upd_ne hne] at hdx; exact hdx
      · have hd1 : ω1.H dx = none := by rw [upd_ne hne] at hdx; exact hdx
        have e1 : upd (del H' a) dx (.xd res) = upd ω1.H dx (.xd res) := by
          funext b
          by_cases hb : b = dx
          · rw [hb, upd_same, upd_same]
          · rw [upd_ne hb, upd_ne hb]
            by_cases hba : b = a
            · rw [hba, del_same, ha]
            · rw [del_ne hba, q3 b hba hb, upd_ne hba]
        rw [e1]
        have h2 := h1 (ω1.lay dx (.xd res)) σ (Ev.lay r1 hd1) (r1.lay hd1) rfl ((er.mono ev).mono (Ev.lay r1 hd1))
        exact h2 (some dx) (.inr ⟨dx, res, rfl, upd_same, fun f d q => let ⟨v, a1, a2⟩ := hres f d q; ⟨v, a1, RV.mono (Ev.lay r1 hd1) d a2⟩⟩)
    · exact h1.elim
  · exact h1.elim
/-! ### try -/
/-- a suite: what it is in hand of -/
def tSuite (K : PySem.W.Frag) (C : Cn) (i c : Nat) (h : List CS) : Addr → Value → Option Addr → TS := fun a cls d D σ H => ∃ c' fs, C.P.xsub c' c = some true ∧ cls = .ref (C.L.ga c') ∧ tSs K (C.hotAt i a d c' fs) (fun _ _ _ _ => False) h D σ H
theorem i_trA {c i : Nat} {b h : List CS} (hn : C.P.xc = none) (hl : C.L.hot = none) (hs : ∀ c' k, C.P.xsub c' c = some k → PySem.W.exmOne K (.ref (C.L.ga c')) (.ref (C.L.ga c)) = some k) (z : tS K C W (.trA b c i h) D σ H) :
    tSs K C (wAs K (.ref (C.L.ga c)) i (tSuite K C i c h) W D) b D σ H := by
  obtain ⟨ω, e, rfl, r, er, z⟩ := z
  simp only [evS, hn] at z
  refine ⟨ω, e, rfl, r, er, ?_⟩
  cases hm : evSs C.P C.F TURNS b e ω.S with
  | nx e1 S1 => rw [hm] at z; exact z
  | bk e1 S1 => rw [hm] at z; exact z
  | ct e1 S1 => rw [hm] at z; exact z
  | rt d S1 => rw [hm] at z; exact z
  | stuck => rw [hm] at z; exact z
  | exc c' fs e1 S1 =>
    rw [hm] at z
    dsimp only at z
    intro ω1 σ1 ev r1 q er1
    subst q
    intro dx xr
    cases hx : C.P.xsub c' c with
    | none => rw [hx] at z; exact z.elim
    | some k =>
      rw [hx] at z
      refine ⟨k, hs c' k hx, fun hk a ha => ?_, fun hk => ?_⟩
      · subst hk
        dsimp only at z
        refine ⟨c', fs, hx, rfl, ω1, e1.set i none, rfl, Rel_at.mpr r1, ?_, ?_⟩
        · refine ⟨⟨by simp [er1.1.1], fun j d hj => ?_⟩, fun t ht => ?_⟩
          · have hne : i ≠ j := by
              rintro rfl
              by_cases hlt : i < e1.length
              · rw [List.getElem?_set_self hlt] at hj; cases hj
              · rw [List.getElem?_eq_none (by simpa using hlt)] at hj; cases hj
            rw [List.getElem?_set_ne hne] at hj
            obtain ⟨v, h1, h2⟩ := er1.1.2 j d hj
            exact ⟨v, by rw [List.getElem?_set_ne hne]; exact h1, (RV_at d).mpr h2⟩
          · cases ht
            refine ⟨XR_at.mpr xr, fun ho => ?_⟩
            by_cases hlt : i < e1.length
            · exact List.getElem?_set_self (by rw [← er1.1.1]; exact hlt)
            · rw [isHole, List.getElem?_eq_none (by simpa using hlt)] at ho; cases ho
        · show RnS K _ _ (evSs { C.P with xc := some (c', fs) } C.F TURNS h (e1.set i none) ω1.S) _ ω1
          have back : ∀ {ω2 : Wd} {e2 : Mi.Env} {σ2 : L2.St}, EnvR K (C.hotAt i a dx c' fs).L ω2 e2 σ2 → EnvR K C.L ω2 (e2.set i none) (σ2.set i none) := by
            intro ω2 e2 σ2 h2
            refine ⟨⟨by simp [h2.1.1], fun j d hj => ?_⟩, fun t ht => by rw [hl] at ht; cases ht⟩
            have hne : i ≠ j := by
              rintro rfl
              by_cases hlt : i < e2.length
              · rw [List.getElem?_set_self hlt] at hj; cases hj
              · rw [List.getElem?_eq_none (by simpa using hlt)] at hj; cases hj
            rw [List.getElem?_set_ne hne] at hj
            obtain ⟨v, h3, h4⟩ := h2.1.2 j d hj
            exact ⟨v, by rw [List.getElem?_set_ne hne]; exact h3, (RV_at d).mp h4⟩
          cases hh : evSs { C.P with xc := some (c', fs) } C.F TURNS h (e1.set i none) ω1.S with
          | nx e2 S2 => rw [hh] at z; exact fun ω2 σ2 ev2 r2 q2 er2 => z ω2 _ (ev.trans ev2) (Rel_at.mp r2) q2 (back er2)
          | bk e2 S2 => rw [hh] at z; exact fun ω2 σ2 ev2 r2 q2 er2 => z ω2 _ (ev.trans ev2) (Rel_at.mp r2) q2 (back er2)
          | ct e2 S2 => rw [hh] at z; exact fun ω2 σ2 ev2 r2 q2 er2 => z ω2 _ (ev.trans ev2) (Rel_at.mp r2) q2 (back er2)
          | rt d S2 => rw [hh] at z; exact fun ω2 v ev2 r2 q2 rv => z ω2 v (ev.trans ev2) (Rel_at.mp r2) q2 ((RV_at d).mp rv)
          | exc c2 fs2 e2 S2 => rw [hh] at z; exact z.elim
          | stuck => rw [hh] at z; exact z.elim
      · subst hk
        exact z ω1 σ1 ev r1 rfl er1 dx xr
end
end Mi
end
section
set_option Elab.async false
set_option linter.all false
set_option maxRecDepth 100000
set_option maxHeartbeats 4000000
/-! The exception in hand: its fields, its class. -/
namespace Mi
open PySem PySem.Spec PyProof.Rows L2
/-- its dict stands -/
def DxOk (H : Hp) (d : Option Addr) : Prop := d = none ∨ ∃ dd fs, d = some dd ∧ H dd = some (.xd fs)
theorem XR.dx {K : PySem.W.Frag} {L : Lnk} {ω : Wd} {fs : List (Sg × D)} {d : Option Addr} (h : XR K L ω fs d) : DxOk ω.H d := by
  rcases h with ⟨_, h⟩ | ⟨a, vs, h1, h2, _⟩
  · exact .inl h
  · exact .inr ⟨a, vs, h1, h2⟩
section
variable {X : Cx} {a A : Addr} {oe : Obj} {d : Option Addr} {pn : List (Addr × Obj)}
theorem kit_x {pins : List (Addr × Obj)} {σ : L2.St} {H : Hp} {s : Shared} (T : ExcC X.K A) (hz : Zc (.ref A) d oe) (hf : ∃ vs, oe.data = .fields vs) (I : Inv (X.suite a ((a, oe) :: pn)) pins σ H s) (hd : DxOk H d) :
    ∃ od, PySem.W.InstAt s.heap a oe A od ∧ PySem.W.KitX X.K (.ref a) (.ref A) (fun h => PySem.W.InstAt h a oe A od) := by
  have hcl : (PySem.W.clsIn X.K A).isSome = true := by obtain ⟨cd, hc, _⟩ := PySem.W.any_some T.hd; rw [hc]; rfl
  obtain ⟨hget, _⟩ := I.pin (a, oe) (List.mem_append.mpr (.inl List.mem_cons_self))
  obtain ⟨vs, hv⟩ := hf
  have nc : PySem.W.notCls oe := by unfold PySem.W.notCls; rw [hv] <;> rfl
  rcases hd with rfl | ⟨dd, fs, rfl, he⟩
  · refine ⟨none, ⟨hget, hz.1, nc, ?_⟩, PySem.W.kitx_exc hcl T.hg T.hk T.hs T.ha T.hn T.ht T.hm⟩
    rw [hz.2]
    trivial
  · have hx : ObjOk X.prog X.w H s.heap dd (.xd fs) := I.hok dd _ he
    obtain ⟨mA, hns, hr⟩ := hx
    obtain ⟨od, ho, hl⟩ := lookIn_ns hns
    exact ⟨some od, ⟨hget, hz.1, nc, by rw [hz.2]; exact ho⟩, PySem.W.kitx_exc hcl T.hg T.hk T.hs T.ha T.hn T.ht T.hm⟩
def rX1 (K : PySem.W.Frag) (A a : Addr) (d : Option Addr) : List V → Hp → VK → Prop := fun xs H Q => ∃ (c : Addr) (b : Bool), xs = [.ref a, .ref c] ∧ DxOk H d ∧ PySem.W.kitOne K (.ref A) (.ref c) = some b ∧ Q (.bl b) H
theorem call_x1 (T : ExcC X.K A) (hz : Zc (.ref A) d oe) (hf : ∃ vs, oe.data = .fields vs) : CallR (X.suite a ((a, oe) :: pn)) (.builtin "isinstance") (rX1 X.K A a d) := by
  intro pins s σ H xs us Q I r h
  obtain ⟨c, b, rfl, hd, e, q⟩ := h
  obtain ⟨u1, u2, rfl, r1, r2⟩ := vals2 r
  cases (show u1 = Value.ref a from r1)
  cases (show u2 = Value.ref c from r2)
  obtain ⟨od, J, Z⟩ := kit_x T hz hf I hd
  exact PySem.W.kia_one Z I.kIn J e (fun z => nomatch z) fun tk => ⟨.bl b, H, I.kept (t' := tk) fun _ _ z => z, rfl, q⟩
def rXT (K : PySem.W.Frag) (A a : Addr) (d : Option Addr) : List V → Hp → VK → Prop := fun xs H Q => ∃ (tp : Addr) (cs : List V) (us : List Value) (b : Bool), xs = [.ref a, .ref tp] ∧ H tp = some (.tup cs) ∧ Paired ClsV cs us ∧ DxOk H d ∧ PySem.W.kitAny K (.ref A) us = some b ∧ Q (.bl b) H
theorem call_xT (T : ExcC X.K A) (hz : Zc (.ref A) d oe) (hf : ∃ vs, oe.data = .fields vs) : CallR (X.suite a ((a, oe) :: pn)) (.builtin "isinstance") (rXT X.K A a d) := by
  intro pins s σ H xs us Q I r h
  obtain ⟨tp, cs, ws, b, rfl, hT, k, hd, e, q⟩ := h
  obtain ⟨u1, u2, rfl, r1, r2⟩ := vals2 r
  cases (show u1 = Value.ref a from r1)
  cases (show u2 = Value.ref tp from r2)
  obtain ⟨od, J, Z⟩ := kit_x T hz hf I hd
  obtain ⟨_, its, rv, o, h1, h2, n, h3⟩ := (show ObjOk X.prog X.w H s.heap tp (.tup cs) from I.hok tp _ hT)
  have e3 := ClsV.all k rv
  subst e3
  obtain ⟨oc, od', dt, sl⟩ := o
  simp only at h2 h3
  subst h2 h3
  exact PySem.W.kia_tup Z I.kIn J h1 e (fun z => nomatch z) fun tk => ⟨.bl b, H, I.kept (t' := tk) fun _ _ z => z, rfl, q⟩
end
/-- what stands around in a suite -/
structure HotX (X : Cx) (C : Cn) (i : Nat) (fl : List Sg) : Prop where
  ex : ∃ (X0 : Cx) (a : Addr) (oe : Obj) (d : Option Addr) (c : Nat) (fs : List (Sg × D)) (pn : List (Addr × Obj)), X = X0.suite a ((a, oe) :: pn) ∧ C.L.hot = some ⟨i, a, d, c, fs⟩ ∧ C.P.xc = some (c, fs) ∧ Zc (.ref (C.L.ga c)) d oe ∧ (∃ vs, oe.data = .fields vs) ∧
    XfC X0.K (C.L.ga c) ∧ ExcC X0.K (C.L.ga c) ∧ (∀ f ∈ fl, PySem.W.findIn X0.K (.ref (C.L.ga c)) (toStr f) = some none) ∧ ∀ t b, C.P.xsub c t = some b → PySem.W.kitOne X0.K (.ref (C.L.ga c)) (.ref (C.L.ga t)) = some b
section
variable {X : Cx} {C : Cn} {W : WX} {x y : Str} {i : Nat} {f : Sg} {fl : List Sg} {p p2 pos : Pos}
theorem s_exf (hx : HotX X C i fl) (hf : f ∈ fl) (hN : X.N[i]? = some x) (hv : Vis X.env.scope x) (hd : (x == ("__debug__" : Str)) = false) (hcd : (x == ("__classdict__" : Str)) = false) : PE X (.Attribute (.Name x p) (toStr f) pos) (tE X.K C W (.exf i f)) := by
  obtain ⟨X0, a, oe, d, c, fs, pn, rfl, hh, hc, hz, hfd, T, _, hno, _⟩ := hx.ex
  refine tE.of (pe_xf T (hno f hf) hz hfd (pe_var hN hv hd hcd)) fun ω e σ Q r er h => ?_
  simp only [evE, hc] at h
  split at h
  · rename_i ho
    obtain ⟨x1, x2⟩ := er.2 _ hh
    obtain ⟨v0, hl, h2⟩ := Rn.lift h
    refine ⟨.ref a, x2 ho, rfl, rfl, ?_⟩
    rcases x1 with ⟨z, _⟩ | ⟨dd, vs, e1, e2, e3⟩
    · dsimp only at z
      rw [z] at hl
      cases hl
    · obtain ⟨v, q1, q2⟩ := e3 f v0 hl
      exact ⟨dd, vs, v, e1, e2, q1, h2.here r v q2⟩
  · exact h.elim
theorem kitAny_of {K : PySem.W.Frag} {P : Pg} {ga : Nat → Addr} {c : Nat} (hk : ∀ t b, P.xsub c t = some b → PySem.W.kitOne K (.ref (ga c)) (.ref (ga t)) = some b) : ∀ {ts : List Nat} {b : Bool}, xisAny P c ts = some b → PySem.W.kitAny K (.ref (ga c)) (ts.map fun t => .ref (ga t)) = some b
  | [], b, h => h
  | t :: ts, b, h => by
    unfold xisAny at h
    show (match PySem.W.kitOne K (.ref (ga c)) (.ref (ga t)) with
      | some true => some true
      | some false => PySem.W.kitAny K (.ref (ga c)) (ts.map fun t => .ref (ga t))
      | none => none) = some b
    split at h
    · rename_i q; rw [hk t _ q]; exact h
    · rename_i q; rw [hk t _ q]; exact kitAny_of hk h
    · cases h
/-- isinstance(e, C) -/
theorem s_exi1 {t : Nat} {z : Str} {zp xp : Pos} (hx : HotX X C i fl) (hz' : z = Str.ofString "isinstance") (hgz : Gl X z) (hmz : X.mg z = none) (hN : X.N[i]? = some x) (hv : Vis X.env.scope x) (hd : (x == ("__debug__" : Str)) = false) (hcd : (x == ("__classdict__" : Str)) = false)
    (hgy : Gl X y) (hmy : X.mg y = some (.ref (C.L.ga t))) (hdy : (y == ("__debug__" : Str)) = false) : PE X (.Call (.Name z zp) [.Name x xp, .Name y p2] [] pos) (tE X.K C W (.exi i [t])) := by
  subst hz'
  obtain ⟨X0, a, oe, d, c, fs, pn, rfl, hh, hc, hz, hfd, T, TE, hno, hk⟩ := hx.ex
  have hy : PE (X0.suite a ((a, oe) :: pn)) (.Name y p2) (tC (.ref (C.L.ga t))) := pe_glob hgy hmy rfl hdy
  refine tE.of (pe_callB (id := "isinstance") (call_x1 TE hz hfd) hgz hmz (by decide +kernel) (pa_cons (pe_var hN hv hd hcd) (pa_cons hy pa_nil)) (by decide +kernel) (by decide +kernel) rfl rfl) fun ω e σ Q r er h => ?_
  simp only [evE, hc] at h
  split at h
  · rename_i ho
    obtain ⟨x1, x2⟩ := er.2 _ hh
    obtain ⟨v0, hl, h2⟩ := Rn.lift h
    cases hb : xisAny C.P c [t] with
    | none => rw [hb] at hl; cases hl
    | some b =>
      rw [hb] at hl
      cases hl
      have hk1 : PySem.W.kitOne X0.K (.ref (C.L.ga c)) (.ref (C.L.ga t)) = some b := by
        unfold xisAny at hb
        split at hb
        · rename_i q; cases hb; exact hk t _ q
        · rename_i q; cases hb; exact hk t _ q
        · cases hb
      exact ⟨.ref a, x2 ho, _, b, rfl, x1.dx, hk1, h2.here r _ rfl⟩
  · exact h.elim
/-- classes by name -/
def ClsE (X : Cx) (ga : Nat → Addr) : List Expr → List Nat → Prop
  | [], [] => True
  | e :: es, t :: ts => (∃ y p, e = .Name y p ∧ Gl X y ∧ X.mg y = some (.ref (ga t)) ∧ (y == ("__debug__" : Str)) = false) ∧ ClsE X ga es ts
  | _, _ => False
theorem pa_cls {X : Cx} {ga : Nat → Addr} : ∀ {es : List Expr} {ts : List Nat}, ClsE X ga es ts → PA X es (fun σ H Q => Q (ts.map fun t => V.ref (ga t)) H)
  | [], [], _ => ⟨fun pos pins s σ H Q I h => pa_nil.run pos pins s σ H Q I h⟩
  | [], _ :: _, h => h.elim
  | _ :: _, [], h => h.elim
  | e :: es, t :: ts, ⟨⟨y, p, he, hg, hm, hd⟩, r⟩ => by
    subst he
    exact ⟨fun pos pins s σ H Q I h => (pa_cons (pe_glob (v := .ref (ga t)) hg hm rfl hd) (pa_cls r)).run pos pins s σ H Q I h⟩
theorem paired_cls {ga : Nat → Addr} : ∀ ts : List Nat, Paired ClsV (ts.map fun t => V.ref (ga t)) (ts.map fun t => Value.ref (ga t))
  | [] => .nil
  | t :: ts => .cons (.own _) (paired_cls ts)
/-- isinstance(e, (C, D, ..)) -/
theorem s_exiT {ts : List Nat} {es : List Expr} {n : Nat} {z : Str} {zp xp tp : Pos} (hx : HotX X C i fl) (hz' : z = Str.ofString "isinstance") (hgz : Gl X z) (hmz : X.mg z = none) (hN : X.N[i]? = some x) (hv : Vis X.env.scope x) (hd : (x == ("__debug__" : Str)) = false) (hcd : (x == ("__classdict__" : Str)) = false)
    (he : ClsE X C.L.ga es ts) (hl : ts.length ≤ 100) : PE X (.Call (.Name z zp) [.Name x xp, .Tuple es n tp] [] pos) (tE X.K C W (.exi i ts)) := by
  subst hz'
  obtain ⟨X0, a, oe, d, c, fs, pn, rfl, hh, hc, hz, hfd, T, TE, hno, hk⟩ := hx.ex
  refine tE.of (pe_callB (id := "isinstance") (call_xT TE hz hfd) hgz hmz (by decide +kernel) (pa_cons (pe_var hN hv hd hcd) (pa_cons (pe_tup (pa_cls he)) pa_nil)) (by decide +kernel) (by decide +kernel) rfl rfl) fun ω e σ Q r er h => ?_
  simp only [evE, hc] at h
  split at h
  · rename_i ho
    obtain ⟨x1, x2⟩ := er.2 _ hh
    obtain ⟨v0, hl0, h2⟩ := Rn.lift h
    cases hb : xisAny C.P c ts with
    | none => rw [hb] at hl0; cases hl0
    | some b =>
      rw [hb] at hl0
      cases hl0
      refine ⟨.ref a, x2 ho, by rw [List.length_map, sizeLine_eq]; omega, fun p hp => ⟨p, _, _, b, rfl, upd_same, paired_cls ts, ?_, kitAny_of hk hb, ?_⟩⟩
      · rcases x1.dx with z | ⟨dd, gs, e1, e2⟩
        · exact .inl z
        · exact .inr ⟨dd, gs, e1, (upd_ne (ne_of_none e2 hp)).trans e2⟩
      · exact h2 (ω.lay p (.tup _)) (Ev.lay r hp) (Rel.lay r hp) rfl _ rfl
  · exact h.elim
end
end Mi
end
section
set_option Elab.async false
set_option linter.all false
set_option maxRecDepth 100000
set_option maxHeartbeats 4000000
/-! The check that a core expression is what is written, and that it is kept. -/
namespace Mi
open PySem PySem.Spec PyProof.Rows L2
/-- what stands around an expression: the slots' names, the scope, the module's names, the cells of its own -/
structure G where
  N : List Str
  sc : Scope
  gl : List (Str × Nat)
  cells : List Str
  fs : List Nat
  /-- the exceptions' classes, the names under which they keep what they keep -/
  xs : List Nat := []
  rs : List Nat := []
  flds : List Sg := []
  /-- the slot of the exception in hand -/
  hot : Option Nat := none
  /-- the def's own statements (not within a comprehension) -/
  top : Bool := true
def G.cold (g : G) : Bool := g.hot.isNone
theorem cold_i {g : G} {b : Bool} (h : (g.cold && b) = true) : g.hot = none ∧ b = true := by
  rw [Bool.and_eq_true] at h
  exact ⟨Option.isNone_iff_eq_none.mp h.1, h.2⟩
def dbgS : Str := "__debug__"
def cldS : Str := "__classdict__"
/-- the built-in names that are used -/
def bNames : List Str := ["len", "abs", "min", "max", "repr", "str", "int", "list", "tuple", "dict", "sum", "all", "any", "divmod", "isinstance", "bool", "range", "enumerate", "zip"].map Str.ofString
def visB (g : G) (x : Str) : Bool := match g.sc.names.lookup x with
  | some .local | some .cell | some .free => true
  | _ => false
def okV (g : G) (i : Nat) (x : Str) : Bool := decide (g.N[i]? = some x) && visB g x && !(x == dbgS) && !(x == cldS)
def glB (g : G) (x : Str) : Bool := decide (g.sc.names.lookup x = some .globalImplicit) && !(x == dbgS)
def okK (g : G) (k : Nat) (x : Str) : Bool := decide (g.gl.lookup x = some k) && glB g x
def stoB (g : G) (i : Nat) (x : Str) : Bool := decide (g.N[i]? = some x) && (decide (g.sc.names.lookup x = some .local) || (decide (g.sc.names.lookup x = some .cell) && decide (x ∈ g.cells)))
def frB (g : G) (x : Str) : Bool := decide (x ∈ bNames) && glB g x
def okCst : D → Const → Bool
  | .non, .none => true
  | .bl b, .bool c => b == c
  | .int i, .int j => decide (i = j)
  | .str x, .str y => decide (y.cps.toList = x) && PyData.strOk y && decide (x.length ≤ LIM)
  | _, _ => false
def opB : Bop → Operator → Bool
  | .add, .Add | .sub, .Sub | .mul, .Mult | .fdiv, .FloorDiv | .mod, .Mod | .pow, .Pow => true
  | _, _ => false
theorem opB_eq {o : Bop} {p : Operator} (h : opB o p = true) : p = opP o := by cases o <;> cases p <;> first | rfl | cases h
def opQ : Cop → CmpOp → Bool
  | .lt, .Lt | .le, .LtE | .gt, .Gt | .ge, .GtE | .eq, .Eq | .ne, .NotEq | .isin, .In | .notin, .NotIn | .isN, .Is | .notN, .IsNot => true
  | _, _ => false
theorem opQ_eq {o : Cop} {p : CmpOp} (h : opQ o p = true) : p = opC o := by cases o <;> cases p <;> first | rfl | cases h
def notSlice : Expr → Bool
  | .Slice _ _ _ _ => false
  | _ => true
theorem plainIx_of {b : Expr} (h : notSlice b = true) : PlainIx b := by
  intro o i
  cases b <;> first | rfl | cases h
def notCall0 : Expr → Bool
  | .Call (.Name _ _) [] [] _ => false
  | _ => true
theorem base_of {o : Expr} {x : Str} {env : PySem.Env} {t : Sem Value} (h : notCall0 o = true) : attributeBase o x env t = t := by
  unfold attributeBase
  split
  · cases h
  · rfl
def notSet : Expr → Bool
  | .Set _ _ _ => false
  | _ => true
theorem fold_of {e : Expr} {env : PySem.Env} (h : notSet e = true) : ∀ x, foldedSetIterable e env x = pure x := by
  intro x
  cases e <;> first | rfl | cases h
theorem marks_of {op : CmpOp} {e : Expr} (h : notSet e = true) : behindInMarks op e = false := by cases e <;> first | rfl | cases h
def boB : Bi → Bool
  | .str => false
  | _ => true
def mtA : Mt → Bool
  | .append | .extend | .join => true
  | _ => false
/-! shapes of what is written -/
def xName (k : Str → Bool) : Expr → Bool
  | .Name x _ => k x
  | _ => false
theorem xName_i {k : Str → Bool} {e : Expr} (h : xName k e = true) : ∃ x p, e = .Name x p ∧ k x = true := by
  cases e <;> first | (cases h; done) | exact ⟨_, _, rfl, h⟩
def xCst (k : Const → Bool) : Expr → Bool
  | .Constant c _ _ => k c
  | _ => false
theorem xCst_i {k : Const → Bool} {e : Expr} (h : xCst k e = true) : ∃ c j p, e = .Constant c j p ∧ k c = true := by
  cases e <;> first | (cases h; done) | exact ⟨_, _, _, rfl, h⟩
def xBin (k : Expr → Operator → Expr → Bool) : Expr → Bool
  | .BinOp x p y _ => k x p y
  | _ => false
theorem xBin_i {k : Expr → Operator → Expr → Bool} {e : Expr} (h : xBin k e = true) : ∃ x p y q, e = .BinOp x p y q ∧ k x p y = true := by
  cases e <;> first | (cases h; done) | exact ⟨_, _, _, _, rfl, h⟩
def xUn (k : UnaryOp → Expr → Bool) : Expr → Bool
  | .UnaryOp o x _ => k o x
  | _ => false
theorem xUn_i {k : UnaryOp → Expr → Bool} {e : Expr} (h : xUn k e = true) : ∃ o x q, e = .UnaryOp o x q ∧ k o x = true := by
  cases e <;> first | (cases h; done) | exact ⟨_, _, _, rfl, h⟩
def isUSub : UnaryOp → Bool
  | .USub => true
  | _ => false
def isNotO : UnaryOp → Bool
  | .Not => true
  | _ => false
def xCmp (k : Expr → List CmpOp → List Expr → Bool) : Expr → Bool
  | .Compare x ps ys _ => k x ps ys
  | _ => false
theorem xCmp_i {k : Expr → List CmpOp → List Expr → Bool} {e : Expr} (h : xCmp k e = true) : ∃ x ps ys q, e = .Compare x ps ys q ∧ k x ps ys = true := by
  cases e <;> first | (cases h; done) | exact ⟨_, _, _, _, rfl, h⟩
def isAnd : BoolOp → Bool
  | .And => true
  | _ => false
def xBo (k : BoolOp → Expr → Expr → Bool) : Expr → Bool
  | .BoolOp o [x, y] _ => k o x y
  | .BoolOp o (x :: y :: z :: r) p => k o x (.BoolOp o (y :: z :: r) p)
  | _ => false
theorem xBo_i {k : BoolOp → Expr → Expr → Bool} {e : Expr} (h : xBo k e = true) : ∃ o x y r p, e = .BoolOp o (x :: y :: r) p ∧ ((r = [] ∧ k o x y = true) ∨ (r ≠ [] ∧ k o x (.BoolOp o (y :: r) p) = true)) := by
  unfold xBo at h
  split at h
  · exact ⟨_, _, _, _, _, rfl, .inl ⟨rfl, h⟩⟩
  · exact ⟨_, _, _, _, _, rfl, .inr ⟨by simp, h⟩⟩
  · cases h
def xIf (k : Expr → Expr → Expr → Bool) : Expr → Bool
  | .IfExp x y z _ => k x y z
  | _ => false
theorem xIf_i {k : Expr → Expr → Expr → Bool} {e : Expr} (h : xIf k e = true) : ∃ x y z q, e = .IfExp x y z q ∧ k x y z = true := by
  cases e <;> first | (cases h; done) | exact ⟨_, _, _, _, rfl, h⟩
def xTup (k : List Expr → Bool) : Expr → Bool
  | .Tuple xs _ _ => k xs
  | _ => false
theorem xTup_i {k : List Expr → Bool} {e : Expr} (h : xTup k e = true) : ∃ xs n q, e = .Tuple xs n q ∧ k xs = true := by
  cases e <;> first | (cases h; done) | exact ⟨_, _, _, rfl, h⟩
def xLst (k : List Expr → Bool) : Expr → Bool
  | .List xs _ => k xs
  | _ => false
theorem xLst_i {k : List Expr → Bool} {e : Expr} (h : xLst k e = true) : ∃ xs q, e = .List xs q ∧ k xs = true := by
  cases e <;> first | (cases h; done) | exact ⟨_, _, rfl, h⟩
def xDic (k : List (Option Expr) → List Expr → Bool) : Expr → Bool
  | .Dict ks vs _ => k ks vs
  | _ => false
theorem xDic_i {k : List (Option Expr) → List Expr → Bool} {e : Expr} (h : xDic k e = true) : ∃ ks vs q, e = .Dict ks vs q ∧ k ks vs = true := by
  cases e <;> first | (cases h; done) | exact ⟨_, _, _, rfl, h⟩
def xSub (k : Expr → Expr → Bool) : Expr → Bool
  | .Subscript x y _ => k x y
  | _ => false
theorem xSub_i {k : Expr → Expr → Bool} {e : Expr} (h : xSub k e = true) : ∃ x y q, e = .Subscript x y q ∧ k x y = true := by
  cases e <;> first | (cases h; done) | exact ⟨_, _, _, rfl, h⟩
def xSlc (k : Expr → Option Expr → Option Expr → Bool) : Expr → Bool
  | .Subscript x (.Slice l h none _) _ => k x l h
  | _ => false
theorem xSlc_i {k : Expr → Option Expr → Option Expr → Bool} {e : Expr} (h : xSlc k e = true) : ∃ x l u p q, e = .Subscript x (.Slice l u none p) q ∧ k x l u = true := by
  unfold xSlc at h
  split at h
  · exact ⟨_, _, _, _, _, rfl, h⟩
  · cases h
def xRev (k : Expr → Bool) : Expr → Bool
  | .Subscript x (.Slice none none (some (.UnaryOp .USub (.Constant (.int 1) _ _) _)) _) _ => k x
  | _ => false
theorem xRev_i {k : Expr → Bool} {e : Expr} (h : xRev k e = true) : ∃ x n p1 p2 p3 q, e = .Subscript x (.Slice none none (some (.UnaryOp .USub (.Constant (.int 1) n p1) p2)) p3) q ∧ k x = true := by
  unfold xRev at h
  split at h
  · exact ⟨_, _, _, _, _, _, rfl, h⟩
  · cases h
def xCal (k : Str → List Expr → Bool) : Expr → Bool
  | .Call (.Name f _) xs [] _ => k f xs
  | _ => false
theorem xCal_i {k : Str → List Expr → Bool} {e : Expr} (h : xCal k e = true) : ∃ f p xs q, e = .Call (.Name f p) xs [] q ∧ k f xs = true := by
  unfold xCal at h
  split at h
  · exact ⟨_, _, _, _, rfl, h⟩
  · cases h
def xMet (k : Expr → Str → List Expr → Bool) : Expr → Bool
  | .Call (.Attribute x f ap) xs [] cp => (ap.endLine == cp.line) && k x f xs
  | _ => false
theorem xMet_i {k : Expr → Str → List Expr → Bool} {e : Expr} (h : xMet k e = true) : ∃ x f ap xs cp, e = .Call (.Attribute x f ap) xs [] cp ∧ (ap.endLine == cp.line) = true ∧ k x f xs = true := by
  unfold xMet at h
  split at h
  · rw [Bool.and_eq_true] at h; exact ⟨_, _, _, _, _, rfl, h.1, h.2⟩
  · cases h
def xLc (k : Expr → Expr → Expr → List Expr → Scope → Bool) : Expr → Bool
  | .ListComp elt [⟨t, it, fs, 0⟩] scope _ => k elt t it fs scope
  | _ => false
theorem xLc_i {k : Expr → Expr → Expr → List Expr → Scope → Bool} {e : Expr} (h : xLc k e = true) : ∃ elt t it fs scope q, e = .ListComp elt [⟨t, it, fs, 0⟩] scope q ∧ k elt t it fs scope = true := by
  unfold xLc at h
  split at h
  · exact ⟨_, _, _, _, _, _, rfl, h⟩
  · cases h
def xFld (k : Str → Str → Bool) : Expr → Bool
  | .Attribute (.Name x _) y _ => k x y
  | _ => false
theorem xFld_i {k : Str → Str → Bool} {e : Expr} (h : xFld k e = true) : ∃ x p y q, e = .Attribute (.Name x p) y q ∧ k x y = true := by
  unfold xFld at h
  split at h
  · exact ⟨_, _, _, _, rfl, h⟩
  · cases h
def xIsE (k : Str → Str → List Expr → Bool) (k1 : Str → Str → Str → Bool) : Expr → Bool
  | .Call (.Name z _) [.Name x _, .Tuple es _ _] [] _ => k z x es
  | .Call (.Name z _) [.Name x _, .Name y _] [] _ => k1 z x y
  | _ => false
theorem xIsE_i {k : Str → Str → List Expr → Bool} {k1 : Str → Str → Str → Bool} {e : Expr} (h : xIsE k k1 e = true) : (∃ z zp x xp es n tp p, e = .Call (.Name z zp) [.Name x xp, .Tuple es n tp] [] p ∧ k z x es = true) ∨ ∃ z zp x xp y yp p, e = .Call (.Name z zp) [.Name x xp, .Name y yp] [] p ∧ k1 z x y = true := by
  unfold xIsE at h
  split at h
  · exact .inl ⟨_, _, _, _, _, _, _, _, rfl, h⟩
  · exact .inr ⟨_, _, _, _, _, _, _, rfl, h⟩
  · cases h
/-- classes by name -/
def clsB (g : G) : List Nat → List Expr → Bool
  | [], es => es.isEmpty
  | t :: ts, es => (match es with
    | .Name y _ :: es => decide (t ∈ g.xs) && (okK g t y && clsB g ts es)
    | _ => false)
def xStar (k : Str → Bool) : List Expr → Bool
  | [.Starred (.Name x _) _] => k x
  | _ => false
theorem xStar_i {k : Str → Bool} {es : List Expr} (h : xStar k es = true) : ∃ x p q, es = [.Starred (.Name x p) q] ∧ k x = true := by
  unfold xStar at h
  split at h
  · exact ⟨_, _, _, rfl, h⟩
  · cases h
def isTup : Expr → Bool
  | .Tuple _ _ _ => true
  | _ => false
theorem isTup_i {e : Expr} (h : isTup e = true) : ∃ xs n q, e = .Tuple xs n q := by
  cases e <;> first | (cases h; done) | exact ⟨_, _, _, rfl⟩
/-- within a comprehension -/
def G.blk (g : G) (scope : Scope) : G := { g with top := false, sc := relS scope g.sc, cells := (scope.names.filter fun y => scope.names.lookup y.1 == some .cell).map (·.1) }
def okBlk (g : G) (scope : Scope) (own : List Nat) : Bool := blkC g.N g.sc scope (own.filterMap fun i => (g.N[i]?).map fun x => (x, i)) && own.all (fun i => (g.N[i]?).isSome)
mutual
def okE (g : G) : CE → Expr → Bool
  | .var i, e => xName (fun x => okV g i x) e
  | .glo k, e => xName (fun x => okK g k x) e
  | .cst d, e => xCst (fun c => okCst d c) e
  | .bin o a b, e => xBin (fun x p y => opB o p && (okE g a x && okE g b y)) e
  | .neg a, e => xUn (fun p x => isUSub p && okE g a x) e
  | .not a, e => xUn (fun p x => isNotO p && okE g a x) e
  | .cmp o a b, e => xCmp (fun x ps ys => match ps, ys with
    | [p], [y] => opQ o p && (okE g a x && (okE g b y && notSet y))
    | _, _ => false) e
  | .chn o o' a b c, e => xCmp (fun x ps ys => match ps, ys with
    | [p, p'], [y, z] => opQ o p && (opQ o' p' && (okE g a x && (okE g b y && (okE g c z && notSet z))))
    | _, _ => false) e
  | .and a b, e => xBo (fun o x y => isAnd o && (okE g a x && okE g b y)) e
  | .or a b, e => xBo (fun o x y => !isAnd o && (okE g a x && okE g b y)) e
  | .ite c a b, e => xIf (fun x y z => okE g c x && (okE g a y && okE g b z)) e
  | .tup es, e => xTup (fun xs => okEs g es xs && noStar xs) e
  | .lst _ es, e => xLst (fun xs => okEs g es xs && noStar xs) e
  | .dsp _ cs, e => xDic (fun ks vs => okPs g cs ks vs && decide (ks.length ≤ 15)) e
  | .sub a i, e => xSub (fun x y => okE g a x && (okE g i y && notSlice y)) e
  | .slc a lo hi, e => xSlc (fun x l h => okE g a x && (okO g lo l && okO g hi h)) e
  | .rev _ a, e => xRev (fun x => okE g a x) e
  | .isi a ts, e => xCal (fun f xs => match ts, xs with
    | [.bt n], [x, .Name y q] => decide (f = Str.ofString "isinstance") && (frB g f && (decide (y = Str.ofString n) && (frB g y && (btOk n && (okE g a x && noStar [x, .Name y q])))))
    | _, _ => false) e
  | .bi b es, e => g.cold && xCal (fun f xs => boB b && (decide (f = Str.ofString (biN b)) && (frB g f && (okEs g es xs && (noStar xs && !xs.isEmpty))))) e
  | .met o m es, e => xMet (fun x f xs => okE g o x && (notCall0 x && (decide (f = Str.ofString (mtN m)) && (okEs g es xs && (noStar xs && (decide (xs.length < 30) && (match m with
    | .pop => xs.isEmpty
    | .get => decide (xs.length = 1)
    | .get2 => decide (xs.length = 2)
    | _ => !xs.isEmpty))))))) e
  | .call k es, e => g.cold && xCal (fun f xs => okK g k f && (okEs g es xs && (noStar xs && decide (k ∈ g.fs)))) e
  | .cav i es, e => g.cold && xCal (fun f xs => okV g i f && (okEs g es xs && (noStar xs && !xs.isEmpty))) e
  | .lc _ el tg it cs own, e => g.cold && xLc (fun elt t itx fs scope => okI g it t itx && (notSet itx && (okBlk g scope own && (okT (g.blk scope) tg t && ((ctN tg).all (fun i => decide (i ∈ own)) && (okE (g.blk scope) el elt && (okEs (g.blk scope) cs fs && decide (cs.length ≤ 1)))))))) e
  | .lenu a, e => g.cold && xCal (fun f xs => decide (f = Str.ofString "list") && (frB g f && (match xs with
    | [.Call (.Name f2 _) [y] [] _] => decide (f2 = Str.ofString "enumerate") && (frB g f2 && (okE g a y && noStar [y]))
    | _ => false))) e
  | .att _ _, _ => false
  | .exf i f, e => xFld (fun x y => decide (g.hot = some i) && (decide (f ∈ g.flds) && (decide (y = toStr f) && okV g i x))) e
  | .exi i ts, e => xIsE (fun z x es => decide (g.hot = some i) && (decide (z = Str.ofString "isinstance") && (frB g z && (okV g i x && (decide (ts.length ≤ 100) && clsB g ts es)))))
      (fun z x y => decide (g.hot = some i) && (decide (z = Str.ofString "isinstance") && (frB g z && (okV g i x && (match ts with
        | [t] => decide (t ∈ g.xs) && okK g t y
        | _ => false))))) e
def okEs (g : G) : List CE → List Expr → Bool
  | [], xs => xs.isEmpty
  | c :: cs, xs => (match xs with
    | [] => false
    | x :: xs => okE g c x && okEs g cs xs)
def okPs (g : G) : List CE → List (Option Expr) → List Expr → Bool
  | [], ks, vs => ks.isEmpty && vs.isEmpty
  | [_], _, _ => false
  | a :: b :: cs, ks, vs => (match ks, vs with
    | some k :: ks, v :: vs => okE g a k && (okE g b v && okPs g cs ks vs)
    | _, _ => false)
def okO (g : G) : Option CE → Option Expr → Bool
  | none, x => x.isNone
  | some c, x => (match x with
    | some x => okE g c x
    | none => false)
/-- what is walked, by the target t -/
def okI (g : G) : CI → Expr → Expr → Bool
  | .seq c, _, x => okE g c x
  | .rng es, _, x => xCal (fun f xs => decide (f = Str.ofString "range") && (frB g f && (okEs g es xs && (noStar xs && (decide (xs.length = 1) || decide (xs.length = 2)))))) x
  | .enu c, t, x => xCal (fun f xs => decide (f = Str.ofString "enumerate") && (frB g f && (isTup t && (match xs with
    | [y] => okE g c y && noStar [y]
    | _ => false)))) x
  | .zip a b, t, x => xCal (fun f xs => decide (f = Str.ofString "zip") && (frB g f && (isTup t && (match xs with
    | [y, z] => okE g a y && (okE g b z && noStar [y, z])
    | _ => false)))) x
def okT (g : G) : CT → Expr → Bool
  | .name i, e => xName (fun x => stoB g i x) e
  | .tup ts, e => g.cold && xTup (fun xs => okTs g ts xs && noStar xs) e
  | .star ts i, e => g.cold && xTup (fun xs => okSt g ts i xs) e
  | .sub o i, e => xSub (fun x y => okE g o x && (okE g i y && notSlice y)) e
  | .att _ _, _ => false
def okTs (g : G) : List CT → List Expr → Bool
  | [], xs => xs.isEmpty
  | t :: ts, xs => (match xs with
    | [] => false
    | x :: xs => okT g t x && okTs g ts xs)
/-- targets, the last one starred -/
def okSt (g : G) : List CT → Nat → List Expr → Bool
  | [], i, xs => xStar (fun x => stoB g i x) xs
  | t :: ts, i, xs => (match xs with
    | [] => false
    | x :: xs => okT g t x && (okSt g ts i xs && noStar [x]))
end
end Mi
end
section
set_option Elab.async false
set_option linter.all false
set_option maxRecDepth 100000
set_option maxHeartbeats 8000000
/-! The check is kept. -/
namespace Mi
open PySem PySem.Spec PyProof.Rows L2
/-- a class that may be raised here -/
structure RzE (X : Cx) (A : Addr) (np : Nat) (fl : List (Sg × Nat)) : Prop where
  T : RaiseX X.K A fl
  run : ∃ fI fd ps, PySem.W.findIn X.K (.ref A) "__init__" = some (some (.ref fI)) ∧ PySem.W.typeIn X.K (.ref fI) = some (.type "function") ∧ FnOk X.prog X.w X.K X.mg X.base CX0 1 fI fd ps (spXin X.K fl np) ∧ Room 2 X.A ∧ Binds X.K fd ps []
/-- all that stands around -/
structure XOk (X : Cx) (C : Cn) (W : WX) (g : G) : Prop where
  sc : X.env.scope = g.sc
  N : X.N = g.N
  nd : X.N.Nodup
  w : X.w = C.L.w
  calm : g.hot = none → X.calm = true
  un : X.A.units + 65 < cLine
  gu : X.A.guards = some []
  tk : Takes X W
  own : PassesOwn (model X.prog X.w) X.A X.env X.xe
  cells : ∀ x ∈ g.cells, X.fn x = true
  free : ∀ x ∈ bNames, X.mg x = none
  gl : ∀ x k, g.gl.lookup x = some k → ∃ u v, X.mg x = some u ∧ RelV v u ∧ ∀ ω, RV X.K C.L ω (glD C.P k) v
  fns : ∀ x k, g.gl.lookup x = some k → (C.P.fn k).isSome = true → X.mg x = some (.ref (C.L.ga k))
  fnn : ∀ k, (C.P.fn k).isSome = false → ∀ ds S, C.F k ds S = .stuck
  fn : g.hot = none → ∀ k, (C.P.fn k).isSome = true → ∃ np, FnE X C k np (C.L.ga k)
  nhot : g.hot = none → C.L.hot = none ∧ C.P.xc = none
  hotx : ∀ i, g.hot = some i → HotX X C i g.flds
  tops : g.top = true → X.stack = X.env :: X.outer ∧ X.env.frame = some X.env.locals
  xg : ∀ x c, g.gl.lookup x = some c → c ∈ g.xs → X.mg x = some (.ref (C.L.ga c))
  xr : g.hot = none → ∀ c ∈ g.rs, ∃ np fl, C.P.xin c = some (np, fl) ∧ RzE X (C.L.ga c) np fl
  xsub : ∀ c' c k, C.P.xsub c' c = some k → PySem.W.exmOne X.K (.ref (C.L.ga c')) (.ref (C.L.ga c)) = some k ∧ PySem.W.kitOne X.K (.ref (C.L.ga c')) (.ref (C.L.ga c)) = some k ∧ XfC X.K (C.L.ga c') ∧ L2.ExcC X.K (C.L.ga c') ∧ ∀ f ∈ g.flds, PySem.W.findIn X.K (.ref (C.L.ga c')) (toStr f) = some none
  fnk : ∀ k, decide (k ∈ g.fs) = true → (C.P.fn k).isSome = true
  sys : SysD X.K
section
variable {X : Cx} {C : Cn} {W : WX} {g : G}
abbrev noW : WX := fun _ _ _ _ => False
theorem XOk.blk (ox : XOk X C W g) (hn : g.hot = none) {s : Shared} {H : Hp} {scope : Scope} {cl : List (Str × Addr)} {B : Addr} {fp : List Addr} : XOk (X.blk s H scope (compEnvC scope cl B X.env) fp) C noW (g.blk scope) where
  sc := by show relS scope X.env.scope = relS scope g.sc; rw [ox.sc]
  N := ox.N
  nd := ox.nd
  w := ox.w
  calm := ox.calm
  un := ox.un
  gu := ox.gu
  tk := fun u s' ⟨a, B', sI, pins, σ, H, cls, d, _, _, _, _, _, _, _, _, z⟩ => z.elim
  own := PassesOwn.never
  cells := fun x hx => by
    obtain ⟨y, hy, rfl⟩ := List.mem_map.mp hx
    exact (List.mem_filter.mp hy).2
  free := ox.free
  gl := ox.gl
  fns := ox.fns
  fnn := ox.fnn
  fn := fun _ k hk => let ⟨np, F⟩ := ox.fn hn k hk; ⟨np, F.keep, F.len, F.run⟩
  nhot := ox.nhot
  hotx := fun i hi => by rw [show (g.blk scope).hot = g.hot from rfl, hn] at hi; cases hi
  tops := fun z => by cases z
  xg := ox.xg
  xr := fun _ c hc => let ⟨np, fl, hx, z⟩ := ox.xr hn c hc; ⟨np, fl, hx, z.T, z.run⟩
  xsub := ox.xsub
  fnk := ox.fnk
  sys := ox.sys
theorem okV_of (ox : XOk X C W g) {i : Nat} {x : Str} (h : okV g i x = true) : X.N[i]? = some x ∧ Vis X.env.scope x ∧ (x == ("__debug__" : Str)) = false ∧ (x == ("__classdict__" : Str)) = false := by
  simp only [okV, Bool.and_eq_true, decide_eq_true_eq, Bool.not_eq_true'] at h
  refine ⟨by rw [ox.N]; exact h.1.1.1, ?_, h.1.2, h.2⟩
  have hv := h.1.1.2
  unfold visB at hv
  rw [Vis, ox.sc]
  split at hv
  · exact .inl ‹_›
  · exact .inr (.inl ‹_›)
  · exact .inr (.inr ‹_›)
  · cases hv
theorem glB_of (ox : XOk X C W g) {x : Str} (h : glB g x = true) : Gl X x ∧ (x == ("__debug__" : Str)) = false := by
  simp only [glB, Bool.and_eq_true, decide_eq_true_eq, Bool.not_eq_true'] at h
  refine ⟨?_, h.2⟩
  show X.env.scope.names.lookup x = _
  rw [ox.sc]
  exact h.1
theorem okK_of (ox : XOk X C W g) {k : Nat} {x : Str} (h : okK g k x = true) : g.gl.lookup x = some k ∧ Gl X x ∧ (x == ("__debug__" : Str)) = false := by
  simp only [okK, Bool.and_eq_true, decide_eq_true_eq] at h
  exact ⟨h.1, glB_of ox h.2⟩
theorem frB_of (ox : XOk X C W g) {x : Str} (h : frB g x = true) : X.mg x = none ∧ Gl X x := by
  simp only [frB, Bool.and_eq_true, decide_eq_true_eq] at h
  exact ⟨ox.free x h.1, (glB_of ox h.2).1⟩
theorem stoB_of (ox : XOk X C W g) {i : Nat} {x : Str} (h : stoB g i x = true) : X.N[i]? = some x ∧ L2.Loc X.env.scope x ∧ (X.fn x = true ∨ X.env.scope.names.lookup x = some .local) := by
  simp only [stoB, Bool.and_eq_true, Bool.or_eq_true, decide_eq_true_eq] at h
  refine ⟨by rw [ox.N]; exact h.1, ?_, ?_⟩
  · rw [L2.Loc, ox.sc]
    exact h.2.imp id (·.1)
  · rw [ox.sc]
    rcases h.2 with z | z
    · exact .inr z
    · exact .inl (ox.cells x z.2)
theorem clsB_of (ox : XOk X C W g) : ∀ {ts : List Nat} {es : List Expr}, clsB g ts es = true → ClsE X C.L.ga es ts
  | [], es, h => by
    have h : es.isEmpty = true := h
    cases es with
    | nil => trivial
    | cons _ _ => cases h
  | t :: ts, es, h => by
    unfold clsB at h
    split at h
    · simp only [Bool.and_eq_true, decide_eq_true_eq] at h
      obtain ⟨l2, g2, d3⟩ := okK_of ox h.2.1
      exact ⟨⟨_, _, rfl, g2, ox.xg _ _ l2 h.1, d3⟩, clsB_of ox h.2.2⟩
    · cases h
theorem callB_of (ox : XOk X C W g) (hn : g.hot = none) {b : Bi} (h : boB b = true) : CallB X C.L b := by
  cases b with
  | len => exact c_len
  | abs => exact c_abs
  | min => exact c_min (ox.calm hn)
  | max => exact c_max (ox.calm hn)
  | rep => exact c_rep ox.sys ox.gu ox.un
  | str => cases h
  | int => exact c_int
  | list => exact c_list
  | tup => exact c_tup
  | dict => exact c_dict (ox.calm hn)
  | sum => exact c_sum (ox.calm hn)
  | all => exact c_all (ox.calm hn)
  | any => exact c_any (ox.calm hn)
  | divmod => exact c_divmod
/-- a test whose form is its value's -/
theorem pt_of {e : Expr} {c : CE} (h : PE X e (tE X.K C W c)) (he : ∀ whole, isTrue e X.env whole = (do let v ← whole; standAt e.pos; holding [v] (truthy v))) : PT X e (tT X.K C W c) :=
  tT.imp (pt_val h he) fun σ H Q z => tT_tE z
theorem PT.tT_tTest {e : Expr} {c : CE} {t : TE} (h : PT X e (tTest t)) (k : ∀ σ H Q, tE X.K C W c σ H Q → t σ H Q) : PT X e (tT X.K C W c) := tT.imp h fun σ H Q z => k σ H _ (tT_tE z)
/-- a if t else b, as a test -/
theorem pt_ifx {c a b : Expr} {p : Pos} {tc ta tb : TT} (hc : PT X c tc) (ha : PT X a ta) (hb : PT X b tb) : PT X (.IfExp c a b p) (fun σ H Q => tc σ H fun k H1 => if k = true then ta σ H1 Q else tb σ H1 Q) := by
  refine ⟨fun pins s σ H Q I h => ?_⟩
  show wpAny _ _ (do if ← isTrue c X.env (eval c X.env) then isTrue a X.env (eval a X.env) else isTrue b X.env (eval b X.env)) _ _ s
  refine wpAny_bind (thn (hc.run pins s σ H _ I h) fun k s1 ⟨H1, I1, q1⟩ => ?_)
  cases k with
  | true => exact ha.run pins s1 σ H1 Q I1 q1
  | false => exact hb.run pins s1 σ H1 Q I1 q1
theorem i_ifx {cc ca cb : CE} {σ : L2.St} {H : Hp} {Q : Bool → Hp → Prop} (h : tT X.K C W (.ite cc ca cb) σ H Q) : tT X.K C W cc σ H fun k H1 => if k = true then tT X.K C W ca σ H1 Q else tT X.K C W cb σ H1 Q := by
  obtain ⟨ω, e, rfl, r, er, h⟩ := h
  have h : Rn X.K C.L ((Mi.tB (evE C.P C.F cc e ω.S)).bnd fun k S1 => Mi.tB (if k then evE C.P C.F ca e S1 else evE C.P C.F cb e S1)) (fun ω' b => Q b ω'.H) (JXof X.K C.L W σ) ω := by
    have e1 := Re.assoc (Mi.tB (evE C.P C.F cc e ω.S)) (fun k S1 => if k then evE C.P C.F ca e S1 else evE C.P C.F cb e S1) (fun x S1 => lift (asB x) S1)
    exact e1 ▸ h
  refine tT.step r er h fun ω1 b e1 r1 h1 => ?_
  cases b with
  | true => rw [if_pos rfl] at h1 ⊢; exact ⟨ω1, e, rfl, r1, er.mono e1, h1⟩
  | false => rw [if_neg Bool.false_ne_true] at h1 ⊢; exact ⟨ω1, e, rfl, r1, er.mono e1, h1⟩
theorem okCst_R {d : D} {c : Const} {j : Nat} {p : Pos} (h : okCst d c = true) : PE X (.Constant c j p) (tE X.K C W (.cst d)) := by
  unfold okCst at h
  split at h
  · exact s_non
  · rw [beq_iff_eq] at h; subst h; exact s_bl
  · rw [decide_eq_true_eq] at h; subst h; exact s_int
  · simp only [Bool.and_eq_true, decide_eq_true_eq] at h
    obtain ⟨⟨h1, h2⟩, h3⟩ := h
    subst h1
    exact s_str ⟨by rw [toStr_list]; exact h2, h3⟩
  · cases h
theorem own_of {scope : Scope} {own : List Nat} (ox : XOk X C W g) (h : okBlk g scope own = true) : ∃ o : List (Str × Nat), BlkOk X.N X.env.scope scope o ∧ o.map (·.2) = own := by
  simp only [okBlk, Bool.and_eq_true] at h
  refine ⟨_, by rw [ox.N, ox.sc]; exact blkOk_by h.1, ?_⟩
  have h2 := h.2
  clear h
  induction own with
  | nil => rfl
  | cons i r ih =>
    simp only [List.all_cons, Bool.and_eq_true] at h2
    cases q : g.N[i]? with
    | none => rw [q] at h2; exact absurd h2.1 (by simp)
    | some x => rw [List.filterMap_cons]; simp only [q, Option.map_some, List.map_cons]; rw [ih h2.2]
theorem asg_sub {x y : Expr} {q : Pos} {env : PySem.Env} (h : notSlice y = true) : ∀ v, assign (.Subscript x y q) env v = (do
      let ov ← holding [v] (eval x env)
      let iv ← holding [v, ov] (eval y env)
      standAt q
      holding [v, ov, iv] (PySem.setItem ov iv v)
      release [v, ov, iv] []) := by
  intro v
  cases y <;> first | rfl | cases h
theorem asgE_head {x : Expr} {r : List Expr} {env : PySem.Env} (h : noStar [x] = true) : assignEach (x :: r) env = (false, assign x env) :: assignEach r env := by
  cases x <;> first | rfl | cases h
theorem asgE_cons {x : Expr} {r : List Expr} {env : PySem.Env} (h : noStar (x :: r) = true) : (assignEach (x :: r) env).map (·.2) = assign x env :: (assignEach r env).map (·.2) := by
  have h1 : noStar [x] = true := by simp only [noStar, List.all_cons, Bool.and_eq_true, List.all_nil] at h ⊢; exact ⟨h.1, trivial⟩
  rw [asgE_head h1]; rfl
theorem asgE_all : ∀ {xs : List Expr} {env : PySem.Env}, noStar xs = true → (assignEach xs env).length = xs.length ∧ (assignEach xs env).findIdx? (·.1) = none
  | [], _, _ => ⟨rfl, rfl⟩
  | x :: r, env, h => by
    have h1 : noStar [x] = true := by simp only [noStar, List.all_cons, Bool.and_eq_true, List.all_nil] at h ⊢; exact ⟨h.1, trivial⟩
    obtain ⟨a, b⟩ := asgE_all (xs := r) (env := env) (star_cons (env := env) h).2
    rw [asgE_head h1]
    refine ⟨by simp [a], ?_⟩
    rw [List.findIdx?_cons]
    simp [b]
/-- a test of two or more is the same whatever its whole is -/
theorem pw_of_pt {o : BoolOp} {vs : List Expr} {p : Pos} {t : TT} (h : PT X (.BoolOp o vs p) t) : PW X (.BoolOp o vs p) t := ⟨fun _ pins s σ H Q I z => h.run pins s σ H Q I z⟩
theorem i_dsp0 {live : Bool} {σ : L2.St} {H : Hp} {Q : VK} (h : tE X.K C W (.dsp live []) σ H Q) : tDNewK σ H Q := by
  obtain ⟨ω, e, rfl, r, er, h⟩ := h
  have h : Rn X.K C.L (allocD live [] ω.S) (fun ω' d => ∀ v, RV X.K C.L ω' d v → Q v ω'.H) (JXof X.K C.L W σ) ω := h
  intro p hp
  cases live with
  | false =>
    have ev := Ev.lay (K := X.K) (o := .dK []) r hp
    exact (h : ∀ ω', Ev X.K ω ω' → Rel X.K C.L ω' → ω'.S = ω.S → ∀ v, RV X.K C.L ω' (.dct []) v → Q v ω'.H) (ω.lay p (.dK [])) ev (Rel.lay r hp) rfl _ ⟨p, [], rfl, ⟨.inl upd_same, Frz.new r hp⟩, rfl⟩
  | true =>
    have ev : Ev X.K ω (ω.laid p (.dK []) (.dct [] false)) := Ev.laid r hp
    refine (h : ∀ ω', Ev X.K ω ω' → Rel X.K C.L ω' → ω'.S = ω.S ++ [some (.dct [] false)] → ∀ v, RV X.K C.L ω' (.ref ω.S.length) v → Q v ω'.H) (ω.laid p (.dK []) (.dct [] false)) ev (Rel.laid r hp ⟨[], upd_same, rfl⟩) rfl _ ⟨by simp [Wd.laid], ?_⟩
    show V.ref p = .ref (if ω.S.length = ω.S.length then p else _)
    rw [if_pos rfl]
theorem allD {α : Type} {p : α → Bool} {l : List α} (h : l.all p = true) : ∀ x ∈ l, p x = true := List.all_eq_true.mp h
end
section
variable {C : Cn}
mutual
theorem sE : ∀ (c : CE) {X : Cx} {W : WX} {g : G} {e : Expr}, XOk X C W g → okE g c e = true → PE X e (tE X.K C W c) ∧ PT X e (tT X.K C W c)
  | .var i, X, W, g, e, ox, h0 => by
    obtain ⟨x, p, rfl, h⟩ := xName_i (show xName (fun x => okV g i x) e = true from h0)
    obtain ⟨h1, h2, h3, h4⟩ := okV_of ox h
    have := s_var (C := C) (W := W) (pos := p) h1 h2 h3 h4
    exact ⟨this, pt_of this fun _ => rfl⟩
  | .glo k, X, W, g, e, ox, h0 => by
    obtain ⟨x, p, rfl, h⟩ := xName_i (show xName (fun x => okK g k x) e = true from h0)
    obtain ⟨h1, h2, h3⟩ := okK_of ox h
    obtain ⟨u, v, hm, r, hv⟩ := ox.gl x k h1
    have := s_glo (C := C) (W := W) (pos := p) h2 hm r hv h3
    exact ⟨this, pt_of this fun _ => rfl⟩
  | .cst d, X, W, g, e, ox, h0 => by
    obtain ⟨c, j, p, rfl, h⟩ := xCst_i (show xCst (fun c => okCst d c) e = true from h0)
    exact ⟨okCst_R h, pt_of (okCst_R h) fun _ => rfl⟩
  | .bin o a b, X, W, g, e, ox, h0 => by
    obtain ⟨x, p, y, q, rfl, h⟩ := xBin_i (show xBin (fun x p y => opB o p && (okE g a x && okE g b y)) e = true from h0)
    simp only [Bool.and_eq_true] at h
    obtain rfl := opB_eq h.1
    have := tE.imp (pe_op (o_bin o) (sE a ox h.2.1).1 (sE b ox h.2.2).1 (pos := q)) fun σ H Q => i_bin (C := C) (W := W) o
    exact ⟨this, pt_of this fun _ => rfl⟩
  | .neg a, X, W, g, e, ox, h0 => by
    obtain ⟨p, x, q, rfl, h⟩ := xUn_i (show xUn (fun p x => isUSub p && okE g a x) e = true from h0)
    simp only [Bool.and_eq_true] at h
    cases p <;> try (cases h.1; done)
    have := tE.imp (pe_un un_neg (sE a ox h.2).1 (pos := q)) fun σ H Q => i_neg (C := C) (W := W)
    exact ⟨this, pt_of this fun _ => rfl⟩
  | .not a, X, W, g, e, ox, h0 => by
    obtain ⟨p, x, q, rfl, h⟩ := xUn_i (show xUn (fun p x => isNotO p && okE g a x) e = true from h0)
    simp only [Bool.and_eq_true] at h
    cases p <;> try (cases h.1; done)
    exact ⟨tE.imp (pe_not (sE a ox h.2).1) fun σ H Q => i_not, tT.imp (pt_not (sE a ox h.2).2) fun σ H Q => j_not⟩
  | .cmp o a b, X, W, g, e, ox, h0 => by
    obtain ⟨x, ps, ys, q, rfl, h⟩ := xCmp_i (show xCmp _ e = true from h0)
    split at h
    · rename_i p y
      simp only [Bool.and_eq_true] at h
      obtain rfl := opQ_eq h.1
      have m := marks_of (op := opC o) h.2.2.2
      exact ⟨tE.imp (pe_cmpR (o_cmp ox.w ox.un o) (sE a ox h.2.1).1 (sE b ox h.2.2.1).1 m) fun σ H Q => i_cmp o, PT.tT_tTest (pt_cmpR (o_cmp ox.w ox.un o) (sE a ox h.2.1).1 (sE b ox h.2.2.1).1 m) fun σ H Q => i_cmp o⟩
    · cases h
  | .chn o o' a b c, X, W, g, e, ox, h0 => by
    obtain ⟨x, ps, ys, q, rfl, h⟩ := xCmp_i (show xCmp _ e = true from h0)
    split at h
    · rename_i p p' y z
      simp only [Bool.and_eq_true] at h
      obtain rfl := opQ_eq h.1
      obtain rfl := opQ_eq h.2.1
      have m : lastMarks [opC o, opC o'] [y, z] = false := marks_of (op := opC o') h.2.2.2.2.2
      exact ⟨tE.imp (pe_chain (o_cmp ox.w ox.un o) (o_cmp ox.w ox.un o') (sE a ox h.2.2.1).1 (sE b ox h.2.2.2.1).1 (sE c ox h.2.2.2.2.1).1 m) fun σ H Q => i_chn o o',
        PT.tT_tTest (pt_chain (o_cmp ox.w ox.un o) (o_cmp ox.w ox.un o') (sE a ox h.2.2.1).1 (sE b ox h.2.2.2.1).1 (sE c ox h.2.2.2.2.1).1 m) fun σ H Q => i_chn o o'⟩
    · cases h
  | .and a b, X, W, g, e, ox, h0 => by
    obtain ⟨o, x, y, r, p, rfl, h⟩ := xBo_i (show xBo (fun o x y => isAnd o && (okE g a x && okE g b y)) e = true from h0)
    simp only [Bool.and_eq_true] at h
    rcases h with ⟨rfl, h⟩ | ⟨hr, h⟩
    · cases o <;> try (cases h.1; done)
      exact ⟨tE.imp (pe_and (sE a ox h.2.1).1 (pe_one (sE b ox h.2.2).1)) fun σ H Q => i_and, tT.imp (pw_and (sE a ox h.2.1).2 (pw_and1 (sE b ox h.2.2).2)).pt fun σ H Q => j_and⟩
    · cases o <;> try (cases h.1; done)
      exact ⟨tE.imp (pe_and (sE a ox h.2.1).1 (sE b ox h.2.2).1) fun σ H Q => i_and, tT.imp (PW.pt (pw_and (sE a ox h.2.1).2 (pw_of_pt (sE b ox h.2.2).2))) fun σ H Q => j_and⟩
  | .or a b, X, W, g, e, ox, h0 => by
    obtain ⟨o, x, y, r, p, rfl, h⟩ := xBo_i (show xBo (fun o x y => !isAnd o && (okE g a x && okE g b y)) e = true from h0)
    simp only [Bool.and_eq_true] at h
    rcases h with ⟨rfl, h⟩ | ⟨hr, h⟩
    · cases o <;> try (cases h.1; done)
      exact ⟨tE.imp (pe_or (sE a ox h.2.1).1 (pe_one (sE b ox h.2.2).1)) fun σ H Q => i_or, tT.imp (pw_or (sE a ox h.2.1).2 (pw_or1 (sE b ox h.2.2).2)).pt fun σ H Q => j_or⟩
    · cases o <;> try (cases h.1; done)
      exact ⟨tE.imp (pe_or (sE a ox h.2.1).1 (sE b ox h.2.2).1) fun σ H Q => i_or, tT.imp (PW.pt (pw_or (sE a ox h.2.1).2 (pw_of_pt (sE b ox h.2.2).2))) fun σ H Q => j_or⟩
  | .ite c a b, X, W, g, e, ox, h0 => by
    obtain ⟨x, y, z, q, rfl, h⟩ := xIf_i (show xIf (fun x y z => okE g c x && (okE g a y && okE g b z)) e = true from h0)
    simp only [Bool.and_eq_true] at h
    exact ⟨tE.imp (pe_ifExp (sE c ox h.1).2 (sE a ox h.2.1).1 (sE b ox h.2.2).1) fun σ H Q => i_ite, tT.imp (pt_ifx (sE c ox h.1).2 (sE a ox h.2.1).2 (sE b ox h.2.2).2) fun σ H Q => i_ifx⟩
  | .tup es, X, W, g, e, ox, h0 => by
    obtain ⟨xs, n, q, rfl, h⟩ := xTup_i (show xTup (fun xs => okEs g es xs && noStar xs) e = true from h0)
    simp only [Bool.and_eq_true] at h
    have := tE.imp (pe_tup (sEs es ox h.1 h.2) (pos := q) (x1 := n)) fun σ H Q => i_tup (C := C) (W := W)
    exact ⟨this, pt_of this fun _ => rfl⟩
  | .lst live es, X, W, g, e, ox, h0 => by
    obtain ⟨xs, q, rfl, h⟩ := xLst_i (show xLst (fun xs => okEs g es xs && noStar xs) e = true from h0)
    simp only [Bool.and_eq_true] at h
    have := tE.imp (pe_lst (sEs es ox h.1 h.2) (pos := q)) fun σ H Q => i_lst (C := C) (W := W) (live := live)
    exact ⟨this, pt_of this fun _ => rfl⟩
  | .dsp live cs, X, W, g, e, ox, h0 => by
    obtain ⟨ks, vs, q, rfl, h⟩ := xDic_i (show xDic (fun ks vs => okPs g cs ks vs && decide (ks.length ≤ 15)) e = true from h0)
    simp only [Bool.and_eq_true, decide_eq_true_eq] at h
    obtain ⟨hp, ha, hl⟩ := sPs cs (W := W) (pos := q) ox h.1
    have : PE X (.Dict ks vs q) (tE X.K C W (.dsp live cs)) := by
      cases ks with
      | nil =>
        cases vs with
        | nil =>
          cases cs with
          | nil => exact tE.imp pe_dnewK fun σ H Q => i_dsp0
          | cons c cs => exact absurd h.1 (by intro z; cases cs <;> cases z)
        | cons v vs => simp at hl
      | cons k ks => exact tE.imp (pe_disp hp ha hl (by simp) h.2) fun σ H Q => i_dsp
    exact ⟨this, pt_of this fun _ => rfl⟩
  | .sub a i, X, W, g, e, ox, h0 => by
    obtain ⟨x, y, q, rfl, h⟩ := xSub_i (show xSub (fun x y => okE g a x && (okE g i y && notSlice y)) e = true from h0)
    simp only [Bool.and_eq_true] at h
    have := tE.imp (pe_ix (o_sub_ix ox.w ox.un) (sE a ox h.1).1 (sE i ox h.2.1).1 (plainIx_of h.2.2) (pos := q)) fun σ H Q => i_sub (C := C) (W := W)
    exact ⟨this, pt_of this fun _ => rfl⟩
  | .slc a lo hi, X, W, g, e, ox, h0 => by
    obtain ⟨x, l, u, p, q, rfl, h⟩ := xSlc_i (show xSlc (fun x l h => okE g a x && (okO g lo l && okO g hi h)) e = true from h0)
    simp only [Bool.and_eq_true] at h
    have := tE.imp (pe_slice o_slc (sE a ox h.1).1 (sO lo ox h.2.1) (sO hi ox h.2.2) (pos := q) (p2 := p)) fun σ H Q => i_slc (C := C) (W := W)
    exact ⟨this, pt_of this fun _ => rfl⟩
  | .rev live a, X, W, g, e, ox, h0 => by
    obtain ⟨x, n, p1, p2, p3, q, rfl, h⟩ := xRev_i (show xRev (fun x => okE g a x) e = true from h0)
    have := tE.imp (pe_revL (sE a ox h).1 (p1 := p1) (p2 := p2) (p3 := p3) (pos := q) (k := n)) fun σ H Q => i_rev (C := C) (W := W) (live := live)
    exact ⟨this, pt_of this fun _ => rfl⟩
  | .isi a ts, X, W, g, e, ox, h0 => by
    obtain ⟨f, p, xs, q, rfl, h⟩ := xCal_i (show xCal _ e = true from h0)
    split at h
    · rename_i n x y p2
      simp only [Bool.and_eq_true, decide_eq_true_eq] at h
      obtain ⟨h1, h2, h3, h4, h5, h6, h7⟩ := h
      obtain ⟨m1, g1⟩ := frB_of ox h2
      obtain ⟨m2, g2⟩ := frB_of ox h4
      have := s_isi (p := p) (pos := q) (p2 := p2) h5 h3 h1 g1 m1 g2 m2 (sE a ox h6).1 (star_cons h7).1
      exact ⟨this, pt_of this fun _ => rfl⟩
    · cases h
  | .bi b es, X, W, g, e, ox, h0 => by
    obtain ⟨hn, h0'⟩ := cold_i (show (g.cold && xCal _ e) = true from h0)
    obtain ⟨f, p, xs, q, rfl, h⟩ := xCal_i h0'
    simp only [Bool.and_eq_true, decide_eq_true_eq] at h
    obtain ⟨h1, h2, h3, h4, h5, h6⟩ := h
    obtain ⟨m1, g1⟩ := frB_of ox h3
    cases xs with
    | nil => exact absurd h6 (by simp)
    | cons y ys =>
      have := s_bi (p := p) (pos := q) (callB_of ox hn h1) h2 g1 m1 (sEs es ox h4 h5) (star_cons h5).1 (back_any (env := X.env) (star_cons (env := X.env) h5).2)
      exact ⟨this, pt_of this fun _ => rfl⟩
  | .met o m es, X, W, g, e, ox, h0 => by
    obtain ⟨x, f, ap, xs, cp, rfl, hl, h⟩ := xMet_i (show xMet _ e = true from h0)
    simp only [Bool.and_eq_true, decide_eq_true_eq] at h
    obtain ⟨h1, h2, h3, h4, h5, h6, h7⟩ := h
    have ho := (sE o ox h1).1
    have ha := sEs es ox h4 h5
    have hb : ∀ f, attributeBase x f X.env (eval x X.env) = eval x X.env := fun f => base_of h2
    have : PE X (.Call (.Attribute x f ap) xs [] cp) (tE X.K C W (.met o m es)) := by
      have go : ∀ {m}, (m = .append ∨ m = .extend ∨ m = .join) → f = Str.ofString (mtN m) → xs.isEmpty = false → PE X (.Call (.Attribute x f ap) xs [] cp) (tE X.K C W (.met o m es)) := fun {m} hm hf hne => by
        cases xs with
        | nil => cases hne
        | cons y ys => exact s_met hm hf ho ha (hb f) h5 h6 hl
      cases m with
      | append => exact go (.inl rfl) h3 (by simpa using h7)
      | extend => exact go (.inr (.inl rfl)) h3 (by simpa using h7)
      | join => exact go (.inr (.inr rfl)) h3 (by simpa using h7)
      | pop =>
        cases xs with
        | nil =>
          cases es with
          | nil => exact s_pop h3 ho (hb f) hl
          | cons c cs => cases h4
        | cons y ys => cases h7
      | get =>
        have h7 : xs.length = 1 := by simpa using h7
        match xs, es, h4, h5, h7 with
        | [y], [c], h4, h5, _ =>
          have h4 : (okE g c y && okEs g [] []) = true := h4
          rw [Bool.and_eq_true] at h4
          subst h3
          exact s_get (by have := ox.un; omega) ho (sE c ox h4.1).1 (hb _) h5 hl
        | [y], [], h4, _, _ => cases h4
        | [y], c :: c2 :: cs, h4, _, _ => exact absurd h4 (by intro z; rw [okEs, Bool.and_eq_true] at z; cases z.2)
      | get2 =>
        have h7 : xs.length = 2 := by simpa using h7
        match xs, es, h4, h5, h7 with
        | [y, z], [c, d], h4, h5, _ =>
          have h4 : (okE g c y && (okE g d z && okEs g [] [])) = true := h4
          simp only [Bool.and_eq_true] at h4
          subst h3
          exact s_get2 (by have := ox.un; omega) ho (sE c ox h4.1).1 (sE d ox h4.2.1).1 (hb _) h5 hl
        | [y, z], [], h4, _, _ => cases h4
        | [y, z], [c], h4, _, _ => exact absurd h4 (by intro z; rw [okEs, Bool.and_eq_true] at z; cases z.2)
        | [y, z], c :: c2 :: c3 :: cs, h4, _, _ => exact absurd h4 (by intro z; rw [okEs, Bool.and_eq_true, okEs, Bool.and_eq_true] at z; cases z.2.2)
      | update =>
        cases xs with
        | nil => exact absurd h7 (by simp)
        | cons y ys => exact s_update h3 ho ha (hb f) h5 h6 hl
    exact ⟨this, pt_of this fun _ => rfl⟩
  | .call k es, X, W, g, e, ox, h0 => by
    obtain ⟨hn, h0'⟩ := cold_i (show (g.cold && xCal _ e) = true from h0)
    obtain ⟨f, p, xs, q, rfl, h⟩ := xCal_i h0'
    simp only [Bool.and_eq_true] at h
    obtain ⟨h1, h2, h3, hs⟩ := h
    have hs := ox.fnk k hs
    obtain ⟨l1, g1, d1⟩ := okK_of ox h1
    have : PE X (.Call (.Name f p) xs [] q) (tE X.K C W (.call k es)) := by
      obtain ⟨np, F⟩ := ox.fn hn k hs
      have hm := ox.fns f k l1 hs
      cases xs with
      | nil =>
        cases es with
        | nil => exact s_call0 F ox.gu ox.tk g1 hm d1
        | cons c cs => cases h2
      | cons y ys => exact s_call F ox.gu ox.tk g1 hm (sEs es ox h2 h3) d1 (star_cons h3).1 (back_any (star_cons (env := X.env) h3).2)
    exact ⟨this, pt_of this fun _ => rfl⟩
  | .cav i es, X, W, g, e, ox, h0 => by
    obtain ⟨hn, h0'⟩ := cold_i (show (g.cold && xCal _ e) = true from h0)
    obtain ⟨f, p, xs, q, rfl, h⟩ := xCal_i h0'
    simp only [Bool.and_eq_true] at h
    obtain ⟨h1, h2, h3, h4⟩ := h
    obtain ⟨n1, v1, d1, d2⟩ := okV_of ox h1
    cases xs with
    | nil => exact absurd h4 (by simp)
    | cons y ys =>
      have := s_cav (p := p) (pos := q) n1 v1 (ox.fn hn) ox.gu ox.tk (sEs es ox h2 h3) d1 d2 (star_cons h3).1 (back_any (star_cons (env := X.env) h3).2)
      exact ⟨this, pt_of this fun _ => rfl⟩
  | .lc live el tg it cs own, X, W, g, e, ox, h0 => by
    obtain ⟨hn, h0'⟩ := cold_i (show (g.cold && xLc _ e) = true from h0)
    obtain ⟨elt, t, itx, fs, scope, q, rfl, h⟩ := xLc_i h0'
    simp only [Bool.and_eq_true] at h
    obtain ⟨h1, h2, h3, h4, h5, h6, h7, h8⟩ := h
    obtain ⟨o, bo, rfl⟩ := own_of ox h3
    have ht : ∀ (s : Shared) (H : Hp) (B : Addr) (cl : List (Str × Addr)) (fp : List Addr), PTs (X.blk s H scope (compEnvC scope cl B X.env) fp) fs (tTs X.K C cs) := fun s H B cl fp => by
      match cs, fs, h7, h8 with
      | [], [], _, _ => exact ⟨fun pins s σ H Q I z => pts_nil.run pins s σ H Q I (i_ts0 z)⟩
      | [c], [f], h7, _ =>
        have h7 : (okE (g.blk scope) c f && okEs (g.blk scope) [] []) = true := h7
        rw [Bool.and_eq_true] at h7
        exact ⟨fun pins s' σ H' Q I z => (pts_one (sE c (ox.blk hn (s := s) (H := H) (cl := cl) (B := B) (fp := fp)) h7.1).2).run pins s' σ H' Q I (i_ts1 z)⟩
      | [], _ :: _, h7, _ => cases h7
      | [c], [], h7, _ => cases h7
      | [c], _ :: _ :: _, h7, _ => exact absurd h7 (by intro z; rw [okEs, Bool.and_eq_true] at z; cases z.2)
      | _ :: _ :: _, _, _, h8 => simp at h8
    have := tE.imp (pe_lc (ox.calm hn) ox.nd (sI it ox h1) bo (fun s H B cl fp => sT tg (W := noW) (ox.blk hn (s := s) (H := H) (cl := cl) (B := B) (fp := fp)) h4) ht (fun s H B cl fp => (sE el (ox.blk hn (s := s) (H := H) (cl := cl) (B := B) (fp := fp)) h6).1) (fold_of h2) (pos := q)) fun σ H Q z => i_lc (W := W) (live := live) (ox.nhot hn).1 (fun i hi => of_decide_eq_true (allD h5 i hi)) z
    exact ⟨this, pt_of this fun _ => rfl⟩
  | .lenu a, X, W, g, e, ox, h0 => by
    obtain ⟨hn, h0'⟩ := cold_i (show (g.cold && xCal _ e) = true from h0)
    obtain ⟨f, p, xs, q, rfl, h⟩ := xCal_i h0'
    simp only [Bool.and_eq_true, decide_eq_true_eq] at h
    obtain ⟨rfl, h2, h3⟩ := h
    obtain ⟨m1, g1⟩ := frB_of ox h2
    split at h3
    · rename_i f2 p2 y q2
      simp only [Bool.and_eq_true, decide_eq_true_eq] at h3
      obtain ⟨rfl, h4, h5, h6⟩ := h3
      obtain ⟨m2, g2⟩ := frB_of ox h4
      have st := star_cons (env := X.env) h6
      have st2 := star_cons (env := X.env) (show noStar [Expr.Call (.Name (Str.ofString "enumerate") p2) [y] [] q2] = true from rfl)
      have := tE.imp (pe_lenu (ox.calm hn) (sE a ox h5).1 g1 m1 g2 m2 st.1 st2.1 (p := p) (p2 := p2) (pos2 := q2) (pos := q)) fun σ H Q => i_lenu (C := C) (W := W)
      exact ⟨this, pt_of this fun _ => rfl⟩
    · cases h3
  | .att _ _, _, _, _, _, _, h => by cases h
  | .exf i f, X, W, g, e, ox, h0 => by
    obtain ⟨x, p, y, q, rfl, h⟩ := xFld_i (show xFld _ e = true from h0)
    simp only [Bool.and_eq_true, decide_eq_true_eq] at h
    obtain ⟨h1, h2, rfl, h4⟩ := h
    obtain ⟨n1, v1, d1, d2⟩ := okV_of ox h4
    have := s_exf (C := C) (W := W) (p := p) (pos := q) (ox.hotx i h1) h2 n1 v1 d1 d2
    exact ⟨this, pt_of this fun _ => rfl⟩
  | .exi i ts, X, W, g, e, ox, h0 => by
    rcases xIsE_i (show xIsE _ _ e = true from h0) with ⟨z, zp, x, xp, es, n, tp, p, rfl, h⟩ | ⟨z, zp, x, xp, y, yp, p, rfl, h⟩
    · simp only [Bool.and_eq_true, decide_eq_true_eq] at h
      obtain ⟨h1, h2, h3, h4, h5, h6⟩ := h
      obtain ⟨m1, g1⟩ := frB_of ox h3
      obtain ⟨n1, v1, d1, d2⟩ := okV_of ox h4
      have := s_exiT (C := C) (W := W) (n := n) (zp := zp) (xp := xp) (tp := tp) (pos := p) (ox.hotx i h1) h2 g1 m1 n1 v1 d1 d2 (clsB_of ox h6) h5
      exact ⟨this, pt_of this fun _ => rfl⟩
    · simp only [Bool.and_eq_true, decide_eq_true_eq] at h
      obtain ⟨h1, h2, h3, h4, h5⟩ := h
      obtain ⟨m1, g1⟩ := frB_of ox h3
      obtain ⟨n1, v1, d1, d2⟩ := okV_of ox h4
      split at h5
      · simp only [Bool.and_eq_true, decide_eq_true_eq] at h5
        obtain ⟨l2, g2, d3⟩ := okK_of ox h5.2
        have := s_exi1 (C := C) (W := W) (zp := zp) (xp := xp) (p2 := yp) (pos := p) (ox.hotx i h1) h2 g1 m1 n1 v1 d1 d2 g2 (ox.xg _ _ l2 h5.1) d3
        exact ⟨this, pt_of this fun _ => rfl⟩
      · cases h5
theorem sEs : ∀ (cs : List CE) {X : Cx} {W : WX} {g : G} {es : List Expr}, XOk X C W g → okEs g cs es = true → noStar es = true → PA X es (tA X.K C W cs)
  | [], X, W, g, es, ox, h, hs => by
    have h : es.isEmpty = true := h
    cases es with
    | nil => exact s_nil
    | cons _ _ => cases h
  | c :: cs, X, W, g, es, ox, h, hs => by
    cases es with
    | nil => cases h
    | cons x xs =>
      have h : (okE g c x && okEs g cs xs) = true := h
      rw [Bool.and_eq_true] at h
      exact s_cons (sE c ox h.1).1 (sEs cs ox h.2 (star_cons (env := X.env) hs).2) (star_cons hs).1
theorem sPs : ∀ (cs : List CE) {X : Cx} {W : WX} {g : G} {ks : List (Option Expr)} {vs : List Expr} {pos : Pos}, XOk X C W g → okPs g cs ks vs = true → PPs X pos ks vs (trsC X.K C W cs) ∧ ks.all (·.isSome) = true ∧ ks.length = vs.length
  | [], X, W, g, ks, vs, pos, ox, h => by
    have h : (ks.isEmpty && vs.isEmpty) = true := h
    cases ks <;> cases vs <;> first | exact ⟨pps_nil, rfl, rfl⟩ | cases h
  | [_], X, W, g, ks, vs, pos, ox, h => by cases h
  | a :: b :: cs, X, W, g, ks, vs, pos, ox, h => by
    have h : (match (generalizing := false) ks, vs with
      | some k :: ks, v :: vs => okE g a k && (okE g b v && okPs g cs ks vs)
      | _, _ => false) = true := h
    split at h
    · rename_i k ks v vs
      simp only [Bool.and_eq_true] at h
      obtain ⟨h1, h2, h3⟩ := sPs cs (W := W) (pos := pos) ox h.2.2
      exact ⟨pps_cons (sE a ox h.1).1 (sE b ox h.2.1).1 h1, by simpa using h2, by simp [h3]⟩
    · cases h
theorem sO : ∀ (c : Option CE) {X : Cx} {W : WX} {g : G} {e : Option Expr}, XOk X C W g → okO g c e = true → PO X e (tO X.K C W c)
  | none, X, W, g, e, ox, h => by
    have h : e.isNone = true := h
    cases e with
    | none => exact ⟨fun pins s σ H Q I z => po_none.run pins s σ H Q I (i_noPart z)⟩
    | some x => cases h
  | some c, X, W, g, e, ox, h => by
    cases e with
    | none => cases h
    | some x => exact ⟨fun pins s σ H Q I z => (po_some (sE c ox h).1).run pins s σ H Q I (i_part z)⟩
theorem sI : ∀ (c : CI) {X : Cx} {W : WX} {g : G} {t e : Expr}, XOk X C W g → okI g c t e = true → PI X t e (tI X.K C W c)
  | .seq c, X, W, g, t, e, ox, h => ⟨fun pins s σ H R I z => (pi_sr (sE c ox h).1).run pins s σ H R I (i_seq z)⟩
  | .rng es, X, W, g, t, e, ox, h0 => by
    obtain ⟨f, p, xs, q, rfl, h⟩ := xCal_i (show xCal _ e = true from h0)
    simp only [Bool.and_eq_true, Bool.or_eq_true, decide_eq_true_eq] at h
    obtain ⟨rfl, h2, h3, h4, h5⟩ := h
    obtain ⟨m1, g1⟩ := frB_of ox h2
    rcases h5 with h5 | h5
    · match xs, es, h3, h5 with
      | [y], [c], h3, _ =>
        have h3 : (okE g c y && okEs g [] []) = true := h3
        rw [Bool.and_eq_true] at h3
        have st := star_cons (env := X.env) h4
        exact ⟨fun pins s σ H R I z => (pi_range1 (p := p) (pos := q) g1 m1 (pa_cons (sE c ox h3.1).1 pa_nil st.1) st.1).run pins s σ H R I (i_rng1 z)⟩
      | [y], [], h3, _ => cases h3
      | [y], c :: c2 :: cs, h3, _ => exact absurd h3 (by intro z; rw [okEs, Bool.and_eq_true] at z; cases z.2)
    · match xs, es, h3, h5 with
      | [y, u], [c, d], h3, _ =>
        have h3 : (okE g c y && (okE g d u && okEs g [] [])) = true := h3
        simp only [Bool.and_eq_true] at h3
        have st := star_cons (env := X.env) h4
        have st2 := star_cons (env := X.env) st.2
        exact ⟨fun pins s σ H R I z => (pi_range2 (p := p) (pos := q) g1 m1 (pa_cons (sE c ox h3.1).1 (pa_cons (sE d ox h3.2.1).1 pa_nil st2.1) st.1) (by rw [st.1, st2.1]; rfl) st2.1).run pins s σ H R I (i_rng2 z)⟩
      | [y, u], [], h3, _ => cases h3
      | [y, u], [c], h3, _ => exact absurd h3 (by intro z; rw [okEs, Bool.and_eq_true] at z; cases z.2)
      | [y, u], c :: c2 :: c3 :: cs, h3, _ => exact absurd h3 (by intro z; rw [okEs, Bool.and_eq_true, okEs, Bool.and_eq_true] at z; cases z.2.2)
  | .enu c, X, W, g, t, e, ox, h0 => by
    obtain ⟨f, p, xs, q, rfl, h⟩ := xCal_i (show xCal _ e = true from h0)
    simp only [Bool.and_eq_true, decide_eq_true_eq] at h
    obtain ⟨rfl, h2, h3, h4⟩ := h
    obtain ⟨m1, g1⟩ := frB_of ox h2
    obtain ⟨ts, n, tp, rfl⟩ := isTup_i h3
    split at h4
    · rename_i y
      rw [Bool.and_eq_true] at h4
      have st := star_cons (env := X.env) h4.2
      exact ⟨fun pins s σ H R I z => (pi_enumS (p := p) (pos := q) g1 m1 (pa_cons (sE c ox h4.1).1 pa_nil st.1) st.1).run pins s σ H R I (i_enu z)⟩
    · cases h4
  | .zip a b, X, W, g, t, e, ox, h0 => by
    obtain ⟨f, p, xs, q, rfl, h⟩ := xCal_i (show xCal _ e = true from h0)
    simp only [Bool.and_eq_true, decide_eq_true_eq] at h
    obtain ⟨rfl, h2, h3, h4⟩ := h
    obtain ⟨m1, g1⟩ := frB_of ox h2
    obtain ⟨ts, n, tp, rfl⟩ := isTup_i h3
    split at h4
    · rename_i y u
      simp only [Bool.and_eq_true] at h4
      have st := star_cons (env := X.env) h4.2.2
      have st2 := star_cons (env := X.env) st.2
      exact ⟨fun pins s σ H R I z => (pi_zipS (p := p) (pos := q) g1 m1 (pa_cons (sE a ox h4.1).1 (pa_cons (sE b ox h4.2.1).1 pa_nil st2.1) st.1) st.1 (back_any (env := X.env) st.2)).run pins s σ H R I (i_zip z)⟩
    · cases h4
theorem sT : ∀ (t : CT) {X : Cx} {W : WX} {g : G} {e : Expr}, XOk X C W g → okT g t e = true → PG X e (tG X.K C t)
  | .name i, X, W, g, e, ox, h0 => by
    obtain ⟨x, p, rfl, h⟩ := xName_i (show xName (fun x => stoB g i x) e = true from h0)
    obtain ⟨h1, h2, h3⟩ := stoB_of ox h
    exact ⟨fun pins s σ H v u Q I r z => (pg_name (pos := p) ox.nd h1 h2 h3).run pins s σ H v u Q I r (i_gname z)⟩
  | .tup ts, X, W, g, e, ox, h0 => by
    obtain ⟨hn, h0'⟩ := cold_i (show (g.cold && xTup (fun xs => okTs g ts xs && noStar xs) e) = true from h0)
    obtain ⟨xs, n, q, rfl, h⟩ := xTup_i h0'
    rw [Bool.and_eq_true] at h
    obtain ⟨hp, hl⟩ := sTs ts ox h.1 h.2
    have ae := asgE_all (env := X.env) h.2
    exact ⟨fun pins s σ H v u Q I r z => (pg_tup (pos := q) (k := n) (ox.calm hn) hp rfl ae.2).run pins s σ H v u Q I r (i_gtup (by rw [ae.1, hl]) z)⟩
  | .star ts i, X, W, g, e, ox, h0 => by
    obtain ⟨hn, h0'⟩ := cold_i (show (g.cold && xTup (fun xs => okSt g ts i xs) e) = true from h0)
    obtain ⟨xs, n, q, rfl, h⟩ := xTup_i h0'
    obtain ⟨es, hp, h1, h2, h3⟩ := sSt ts i ox h
    exact ⟨fun pins s σ H v u Q I r z => (pg_star (pos := q) (k := n) (ox.calm hn) hp h1 h2 h3).run pins s σ H v u Q I r (i_gstar rfl z)⟩
  | .sub o i, X, W, g, e, ox, h0 => by
    obtain ⟨x, y, q, rfl, h⟩ := xSub_i (show xSub (fun x y => okE g o x && (okE g i y && notSlice y)) e = true from h0)
    simp only [Bool.and_eq_true] at h
    have z2 : PG X (.Subscript x y q) (gSub (tE X.K C W o) (tE X.K C W i) (sSet X.K C.L)) := pg_sub (sE o ox h.1).1 (sE i ox h.2.1).1 (set_R (by have := ox.un; omega)) (asg_sub h.2.2)
    exact ⟨fun pins s σ H v u Q I r z => z2.run pins s σ H v u Q I r (i_gsub z)⟩
  | .att _ _, X, W, g, e, ox, h => by cases h
theorem sTs : ∀ (ts : List CT) {X : Cx} {W : WX} {g : G} {es : List Expr}, XOk X C W g → okTs g ts es = true → noStar es = true → PGs X es (tGs X.K C ts) ∧ es.length = ts.length
  | [], X, W, g, es, ox, h, hs => by
    have h : es.isEmpty = true := h
    cases es with
    | nil => exact ⟨⟨fun pins s σ H vs us Q I r z => pgs_nil.run pins s σ H vs us Q I r (i_gnil z)⟩, rfl⟩
    | cons _ _ => cases h
  | t :: ts, X, W, g, es, ox, h, hs => by
    cases es with
    | nil => cases h
    | cons x xs =>
      have h : (okT g t x && okTs g ts xs) = true := h
      rw [Bool.and_eq_true] at h
      have hs2 := star_cons (env := X.env) hs
      obtain ⟨hp, hl⟩ := sTs ts ox h.2 hs2.2
      have z2 := pgs_cons (sT t ox h.1) hp (asgE_cons (env := X.env) hs)
      exact ⟨⟨fun pins s σ H vs us Q I r z => z2.run pins s σ H vs us Q I r (i_gcons z)⟩, by simp [hl]⟩
theorem sSt : ∀ (ts : List CT) (i : Nat) {X : Cx} {W : WX} {g : G} {xs : List Expr}, XOk X C W g → okSt g ts i xs = true → ∃ es, PGs X es (tGs X.K C (ts ++ [.name i])) ∧ (assignEach xs X.env).length = ts.length + 1 ∧ (assignEach xs X.env).findIdx? (·.1) = some ts.length ∧
    (assignEach xs X.env).map (·.2) = (assignEach es X.env).map (·.2)
  | [], i, X, W, g, xs, ox, h0 => by
    obtain ⟨x, p1, p2, rfl, h⟩ := xStar_i (show xStar (fun x => stoB g i x) xs = true from h0)
    obtain ⟨h1, h2, h3⟩ := stoB_of ox h
    have a : PG X (.Name x p1) (tG X.K C (.name i)) := ⟨fun pins s σ H v u Q I r z => (pg_name (pos := p1) ox.nd h1 h2 h3).run pins s σ H v u Q I r (i_gname z)⟩
    have z2 := pgs_cons a (pgs_nil (X := X)) rfl
    exact ⟨[.Name x p1], ⟨fun pins s σ H vs us Q I r z => z2.run pins s σ H vs us Q I r (by
      obtain ⟨v, r1, e1, q1⟩ := i_gcons (ts := []) z
      obtain ⟨ω, e, d, a1, a2, a3, a4, a5⟩ := q1
      exact ⟨v, r1, e1, ω, e, d, a1, a2, a3, a4, a5.imp fun ω' e' _ _ k σ' er of => i_gnil (k σ' er of)⟩)⟩, rfl, rfl, rfl⟩
  | t :: ts, i, X, W, g, xs, ox, h => by
    cases xs with
    | nil => cases h
    | cons x xs =>
      have h : (okT g t x && (okSt g ts i xs && noStar [x])) = true := h
      simp only [Bool.and_eq_true] at h
      obtain ⟨es, hp, h1, h2, h3⟩ := sSt ts i ox h.2.1
      have ac := asgE_head (env := X.env) (r := xs) h.2.2
      have ac2 := asgE_head (env := X.env) (r := es) h.2.2
      have z2 := pgs_cons (es := es) (sT t ox h.1) hp (by rw [ac2]; rfl)
      refine ⟨x :: es, ⟨fun pins s σ H vs us Q I r z => z2.run pins s σ H vs us Q I r (i_gcons z)⟩, ?_, ?_, ?_⟩
      · rw [ac]; simp [h1]
      · rw [ac, List.findIdx?_cons]; simp [h2]
      · rw [ac, ac2, List.map_cons, List.map_cons, h3]
end
end
end Mi
end
section
set_option Elab.async false
set_option linter.all false
set_option maxRecDepth 100000
set_option maxHeartbeats 8000000
/-! Statements: the check, and that it is kept. -/
namespace Mi
open PySem PySem.Spec PyProof.Rows L2
def notComp : Expr → Bool
  | .ListComp _ _ _ _ | .SetComp _ _ _ _ | .DictComp _ _ _ _ _ => false
  | _ => true
theorem swaps_of {e : Expr} {t : Option Expr} {l : Nat} {env : PySem.Env} (h : notComp e = true) : swapsWith e t l env = pure false := by cases e <;> first | rfl | cases h
def isSwap : Expr → Bool
  | .Starred _ _ => true
  | _ => false
/-- the names that are stored from the right (none: as written) -/
def swpC (sc : Scope) (ts vs : List Expr) : Option (Option (List Str)) :=
  if (!(ts.length == 2 || ts.length == 3) || vs.length != ts.length) = true then some none else
  if (vs.any fun | .Starred .. => true | _ => false) = true then some none else
  if ((ts.filterMap fun
    | .Name id pos => if (sc.names.lookup id == some .local && pos.line == (ts.head?.map (·.pos.line)).getD 0) = true then some id else none
    | _ => none).length != ts.length || (ts.filterMap fun
    | .Name id pos => if (sc.names.lookup id == some .local && pos.line == (ts.head?.map (·.pos.line)).getD 0) = true then some id else none
    | _ => none).eraseDups.length != (ts.filterMap fun
    | .Name id pos => if (sc.names.lookup id == some .local && pos.line == (ts.head?.map (·.pos.line)).getD 0) = true then some id else none
    | _ => none).length) = true then some none else
  if vs.all (foldedForSure 8) = true then some none else
  if vs.all (constantsAlone 8) = true then none else some (some (ts.filterMap fun
    | .Name id pos => if (sc.names.lookup id == some .local && pos.line == (ts.head?.map (·.pos.line)).getD 0) = true then some id else none
    | _ => none))
theorem blockKind_of {env : PySem.Env} (hk : env.scope.kind = .function) : env.blockKind = .function := by unfold Env.blockKind; rw [hk]; rfl
theorem swp_of {env : PySem.Env} {ts vs : List Expr} {n m : Nat} {p q : Pos} {o : Option (List Str)} (hk : env.scope.kind = .function) (h : swpC env.scope ts vs = some o) : swappedStores [.Tuple ts n p] (.Tuple vs m q) env = pure o := by
  have hb : (env.blockKind != .function) = false := by rw [blockKind_of hk]; rfl
  unfold swappedStores
  dsimp only
  unfold swpC at h
  rw [hb, Bool.or_false]
  split at h
  · rename_i c
    cases h
    rw [if_pos c]
  · rename_i c
    rw [if_neg c]
    split at h
    · rename_i c2
      cases h
      exact if_pos c2
    · rename_i c2
      refine (if_neg c2).trans ?_
      split at h
      · rename_i c3
        cases h
        exact if_pos c3
      · rename_i c3
        refine (if_neg c3).trans ?_
        split at h
        · rename_i c4
          cases h
          exact if_pos c4
        · rename_i c4
          refine (if_neg c4).trans ?_
          split at h
          · cases h
          · rename_i c5
            cases h
            exact if_neg c5
/-! shapes -/
def ySet (k : Expr → Expr → Nat → Bool) : Stmt → Bool
  | .Assign [t] e p => k t e p.line
  | _ => false
theorem ySet_i {k : Expr → Expr → Nat → Bool} {s : Stmt} (h : ySet k s = true) : ∃ t e p, s = .Assign [t] e p ∧ k t e p.line = true := by
  unfold ySet at h
  split at h
  · exact ⟨_, _, _, rfl, h⟩
  · cases h
def yAug (k : Str → Operator → Expr → Bool) : Stmt → Bool
  | .AugAssign (.Name x _) o e _ => k x o e
  | _ => false
theorem yAug_i {k : Str → Operator → Expr → Bool} {s : Stmt} (h : yAug k s = true) : ∃ x p o e q, s = .AugAssign (.Name x p) o e q ∧ k x o e = true := by
  unfold yAug at h
  split at h
  · exact ⟨_, _, _, _, _, rfl, h⟩
  · cases h
def yRet (k : Option Expr → Bool) : Stmt → Bool
  | .Return e _ => k e
  | _ => false
theorem yRet_i {k : Option Expr → Bool} {s : Stmt} (h : yRet k s = true) : ∃ e p, s = .Return e p ∧ k e = true := by
  cases s <;> first | (cases h; done) | exact ⟨_, _, rfl, h⟩
def yIf (k : Expr → List Stmt → List Stmt → Bool) : Stmt → Bool
  | .If c a b _ => k c a b
  | _ => false
theorem yIf_i {k : Expr → List Stmt → List Stmt → Bool} {s : Stmt} (h : yIf k s = true) : ∃ c a b p, s = .If c a b p ∧ k c a b = true := by
  cases s <;> first | (cases h; done) | exact ⟨_, _, _, _, rfl, h⟩
def yFor (k : Expr → Expr → List Stmt → Bool) : Stmt → Bool
  | .For t i b [] _ => k t i b
  | _ => false
theorem yFor_i {k : Expr → Expr → List Stmt → Bool} {s : Stmt} (h : yFor k s = true) : ∃ t i b p, s = .For t i b [] p ∧ k t i b = true := by
  unfold yFor at h
  split at h
  · exact ⟨_, _, _, _, rfl, h⟩
  · cases h
def yWhl (k : Expr → List Stmt → Bool) : Stmt → Bool
  | .While c b [] _ => k c b
  | _ => false
theorem yWhl_i {k : Expr → List Stmt → Bool} {s : Stmt} (h : yWhl k s = true) : ∃ c b p, s = .While c b [] p ∧ k c b = true := by
  unfold yWhl at h
  split at h
  · exact ⟨_, _, _, rfl, h⟩
  · cases h
def yExp (k : Expr → Bool) : Stmt → Bool
  | .Expr e _ => k e
  | _ => false
theorem yExp_i {k : Expr → Bool} {s : Stmt} (h : yExp k s = true) : ∃ e p, s = .Expr e p ∧ k e = true := by
  cases s <;> first | (cases h; done) | exact ⟨_, _, rfl, h⟩
def yRse (k : Str → Expr → List Expr → Bool) : Stmt → Bool
  | .Raise (some (.Call (.Name x _) (e :: es) [] _)) none _ => k x e es
  | _ => false
theorem yRse_i {k : Str → Expr → List Expr → Bool} {s : Stmt} (h : yRse k s = true) : ∃ x p e es q r, s = .Raise (some (.Call (.Name x p) (e :: es) [] q)) none r ∧ k x e es = true := by
  unfold yRse at h
  split at h
  · exact ⟨_, _, _, _, _, _, rfl, h⟩
  · cases h
def yTry (k : List Stmt → Str → Str → Stmt → List Stmt → Bool) : Stmt → Bool
  | .Try b [.ExceptHandler (some (.Name x _)) (some n) (s0 :: ss) _] [] [] _ => k b x n s0 ss
  | _ => false
theorem yTry_i {k : List Stmt → Str → Str → Stmt → List Stmt → Bool} {s : Stmt} (h : yTry k s = true) : ∃ b x p n s0 ss q r, s = .Try b [.ExceptHandler (some (.Name x p)) (some n) (s0 :: ss) q] [] [] r ∧ k b x n s0 ss = true := by
  unfold yTry at h
  split at h
  · exact ⟨_, _, _, _, _, _, _, _, rfl, h⟩
  · cases h
def isPass : Stmt → Bool
  | .Pass _ => true
  | _ => false
def isBrk : Stmt → Bool
  | .Break _ => true
  | _ => false
def isCnt : Stmt → Bool
  | .Continue _ => true
  | _ => false
/-- a, b = x, y with plain local names: the places -/
def xPar (k : List Str → List Expr → Bool) : Expr → Expr → Bool
  | .Tuple [.Name x _, .Name y _] _ _, .Tuple [a, b] _ _ => k [x, y] [a, b]
  | .Tuple [.Name x _, .Name y _, .Name z _] _ _, .Tuple [a, b, c] _ _ => k [x, y, z] [a, b, c]
  | _, _ => false
/-- the stores are as written -/
def plainB (sc : Scope) : Expr → Expr → Bool
  | .Tuple ts _ _, .Tuple vs _ _ => (match swpC sc ts vs with
    | some none => true
    | _ => false)
  | .Tuple _ _ _, _ => true
  | .Subscript _ _ _, _ => true
  | _, _ => false
theorem plain_of {env : PySem.Env} {t e : Expr} {l : Nat} (hk : env.scope.kind = .function) (h : plainB env.scope t e = true) : swapsWithSole [t] e l env = pure false ∧ swappedStores [t] e env = pure none ∧ (assignEach [t] env).map (·.2) = [assign t env] := by
  unfold plainB at h
  split at h
  · split at h
    · rename_i q
      exact ⟨rfl, swp_of hk q, rfl⟩
    · cases h
  · rename_i ne
    refine ⟨by cases e <;> rfl, ?_, rfl⟩
    cases e <;> first | rfl | exact absurd rfl (ne _ _ _)
  · exact ⟨by cases e <;> rfl, by cases e <;> rfl, rfl⟩
  · cases h
/-- y = [..]: the list is stored ahead of the block's end -/
def lcB (g : G) (x : Str) (pl : Nat) : Expr → Bool
  | .ListComp _ _ scope pos => decide (g.sc.names.lookup x = some .local) && (pl == pos.line) && !(scope.names.any fun (n, k) => n == x && (k == .local || k == .cell))
  | _ => false
/-- .. or not, where y is captured -/
def lcC (g : G) (x : Str) : Expr → Bool
  | .ListComp _ _ _ _ => decide (g.sc.names.lookup x = some .cell)
  | e => notComp e
def isLc : CE → Bool
  | .lc _ _ _ _ _ _ => true
  | _ => false
def xNameP (k : Str → Nat → Bool) : Expr → Bool
  | .Name x p => k x p.line
  | _ => false
theorem xNameP_i {k : Str → Nat → Bool} {e : Expr} (h : xNameP k e = true) : ∃ x p, e = .Name x p ∧ k x p.line = true := by
  cases e <;> first | (cases h; done) | exact ⟨_, _, rfl, h⟩
def augB : Bop → Operator → Bool
  | .add, .Add | .sub, .Sub => true
  | _, _ => false
/-- how an assignment is told -/
def okA (g : G) : CT → CE → Expr → Expr → Bool
  | .name i, c, t, e => xNameP (fun x pl => stoB g i x && (okE g c e && (lcC g x e || lcB g x pl e))) t
  | .tup ts, c, t, e => g.cold && ((match ts, c with
    | [.name i, .name j], .tup [a, b] => (match t, e with
      | .Tuple [.Name x px, .Name y py] _ _, .Tuple [u, v] _ _ => decide (i ≠ j) && (decide (swpC g.sc [.Name x px, .Name y py] [u, v] = some (some [x, y])) && (decide (g.N[i]? = some x) && (decide (g.N[j]? = some y) &&
          (decide (g.sc.names.lookup x = some .local) && (decide (g.sc.names.lookup y = some .local) && (okE g a u && (okE g b v && noStar [u, v])))))))
      | _, _ => false)
    | [.name i, .name j, .name l], .tup [a, b, d] => (match t, e with
      | .Tuple [.Name x px, .Name y py, .Name z pz] _ _, .Tuple [u, v, w] _ _ => decide (i ≠ j ∧ i ≠ l ∧ j ≠ l) && (decide (swpC g.sc [.Name x px, .Name y py, .Name z pz] [u, v, w] = some (some [x, y, z])) && (decide (g.N[i]? = some x ∧ g.N[j]? = some y ∧ g.N[l]? = some z) &&
          (decide (g.sc.names.lookup x = some .local ∧ g.sc.names.lookup y = some .local ∧ g.sc.names.lookup z = some .local) && (okE g a u && (okE g b v && (okE g d w && noStar [u, v, w]))))))
      | _, _ => false)
    | _, _ => false) || (plainB g.sc t e && (okT g (.tup ts) t && okE g c e)))
  | tt, c, t, e => plainB g.sc t e && (okT g tt t && okE g c e)
mutual
def okT1 (g : G) : CS → Stmt → Bool
  | .exp c, s => yExp (fun e => okE g c e && notComp e) s
  | .asg t c, s => ySet (fun x e _ => okA g t c x e) s
  | .aug i o c, s => yAug (fun x p e => stoB g i x && (opB o p && (augB o p && okE g c e))) s
  | .ret c, s => yRet (fun e => match e with
    | some e => okE g c e
    | none => (match c with
      | .cst .non => true
      | _ => false)) s
  | .ite c a b, s => yIf (fun e x y => okE g c e && (okL g a x && okL g b y)) s
  | .for_ t it b, s => g.cold && yFor (fun x i y => okI g it x i && (okT g t x && (okL g b y && notSet i))) s
  | .whl c b, s => yWhl (fun e y => okE g c e && okL g b y) s
  | .brk, s => isBrk s
  | .cnt, s => isCnt s
  | .pass, s => isPass s
  | .rse c es, s => g.cold && yRse (fun x e xs => decide (c ∈ g.rs ∧ c ∈ g.xs) && (okK g c x && (okEs g es (e :: xs) && noStar (e :: xs)))) s
  | .trA b c i h, s => (g.cold && g.top) && yTry (fun x y n s0 ss => decide (c ∈ g.xs) && (okK g c y && (okL g b x && (decide (g.N[i]? = some n) && (decide (g.sc.names.lookup n = some .local) && okL { g with hot := some i } h (s0 :: ss)))))) s
def okL (g : G) : List CS → List Stmt → Bool
  | [], ss => ss.isEmpty
  | c :: cs, ss => (match ss with
    | [] => false
    | s :: ss => okT1 g c s && okL g cs ss)
end
section
variable {K : PySem.W.Frag} {C : Cn} {W : WX} {ω : Wd} {σ : L2.St} {H : Hp} {D : Ends}
theorem toS_bnd {α β : Type} (m : Re α) (f : α → Mi.St → Re β) (e : Mi.Env) (k : β → Mi.St → RS) : (m.bnd f).toS e k = m.toS e fun a S => (f a S).toS e k := by cases m <;> rfl
theorem i_par {i j : Nat} {ca cb : CE} (h : tS K C W (.asg (.tup [.name i, .name j]) (.tup [ca, cb])) D σ H) : tPar i j (tA K C W [ca, cb]) D σ H := by
  obtain ⟨ω, e, rfl, r, er, h⟩ := h
  have h : RnS K C.L W ((((evEs C.P C.F [ca, cb] e ω.S).bnd fun xs S1 => if xs.length ≤ LIM then Re.ok (Mi.D.tup xs) S1 else .stuck)).toS e fun d S1 => (asg C.P C.F (.tup [.name i, .name j]) d e S1).nox.toS e fun e1 S2 => .nx e1 S2) D ω := h
  rw [toS_bnd] at h
  refine ⟨ω, e, rfl, r, er, (RnS.toS er h).imp fun ω1 ds ev r1 h1 vs rs => ?_⟩
  split at h1
  · have h1 : RnS K C.L W ((asg C.P C.F (.tup [.name i, .name j]) (.tup ds) e ω1.S).nox.toS e fun e1 S2 => .nx e1 S2) D ω1 := h1
    simp only [asg] at h1
    split at h1
    · rename_i hl
      match ds, hl with
      | [d1, d2], _ =>
        obtain ⟨v, u, rfl, q1, q2⟩ := rvs2 rs
        have er1 := er.mono ev
        by_cases hi : i < e.length
        · by_cases hj : j < e.length
          · simp only [asgs, asg, List.length_set, if_pos hi, if_pos hj] at h1
            have h2 := (h1 : RnS K C.L W ((((Re.ok (e.set i (some d1)) ω1.S).bnd fun e1 S1 => (if j < e1.length then Re.ok (e1.set j (some d2)) S1 else .stuck).bnd fun e2 S2 => Re.ok e2 S2)).nox.toS e fun e1 S2 => .nx e1 S2) D ω1)
            simp only [Re.bnd, List.length_set, if_pos hj] at h2
            exact ⟨v, u, rfl, h2 ω1 _ (Ev.refl _) r1 rfl ((er1.set q1).set q2)⟩
          · simp only [asgs, asg, if_pos hi] at h1
            have h2 := (h1 : RnS K C.L W ((((Re.ok (e.set i (some d1)) ω1.S).bnd fun e1 S1 => (if j < e1.length then Re.ok (e1.set j (some d2)) S1 else .stuck).bnd fun e2 S2 => Re.ok e2 S2)).nox.toS e fun e1 S2 => .nx e1 S2) D ω1)
            simp only [Re.bnd, List.length_set, if_neg hj] at h2
            exact h2.elim
        · simp only [asgs, asg, if_neg hi] at h1
          exact h1.elim
    · exact h1.elim
  · exact h1.elim
theorem rvs3 {L : Lnk} {d e f : Mi.D} {vs : List V} (h : RVs K L ω [d, e, f] vs) : ∃ v u w, vs = [v, u, w] ∧ RV K L ω d v ∧ RV K L ω e u ∧ RV K L ω f w := by
  obtain ⟨v, r, rfl, h1, h2⟩ := h
  obtain ⟨u, w, rfl, h3, h4⟩ := rvs2 h2
  exact ⟨v, u, w, rfl, h1, h3, h4⟩
theorem i_par3 {i j l : Nat} {ca cb cc : CE} (h : tS K C W (.asg (.tup [.name i, .name j, .name l]) (.tup [ca, cb, cc])) D σ H) : tPar3 i j l (tA K C W [ca, cb, cc]) D σ H := by
  obtain ⟨ω, e, rfl, r, er, h⟩ := h
  have h : RnS K C.L W ((((evEs C.P C.F [ca, cb, cc] e ω.S).bnd fun xs S1 => if xs.length ≤ LIM then Re.ok (Mi.D.tup xs) S1 else .stuck)).toS e fun d S1 => (asg C.P C.F (.tup [.name i, .name j, .name l]) d e S1).nox.toS e fun e1 S2 => .nx e1 S2) D ω := h
  rw [toS_bnd] at h
  refine ⟨ω, e, rfl, r, er, (RnS.toS er h).imp fun ω1 ds ev r1 h1 vs rs => ?_⟩
  split at h1
  · have h1 : RnS K C.L W ((asg C.P C.F (.tup [.name i, .name j, .name l]) (.tup ds) e ω1.S).nox.toS e fun e1 S2 => .nx e1 S2) D ω1 := h1
    simp only [asg] at h1
    split at h1
    · rename_i hl
      match ds, hl with
      | [d1, d2, d3], _ =>
        obtain ⟨v, u, w, rfl, q1, q2, q3⟩ := rvs3 rs
        have er1 := er.mono ev
        have g1 : RnS K C.L W (((if i < e.length then Re.ok (e.set i (some d1)) ω1.S else .stuck).bnd fun e1 S1 => (if j < e1.length then Re.ok (e1.set j (some d2)) S1 else .stuck).bnd fun e2 S2 => (if l < e2.length then Re.ok (e2.set l (some d3)) S2 else .stuck).bnd fun e3 S3 => Re.ok e3 S3).nox.toS e fun e1 S2 => .nx e1 S2) D ω1 := h1
        by_cases hi : i < e.length
        · by_cases hj : j < e.length
          · by_cases hk : l < e.length
            · simp only [Re.bnd, List.length_set, if_pos hi, if_pos hj, if_pos hk] at g1
              exact ⟨v, u, w, rfl, g1 ω1 _ (Ev.refl _) r1 rfl (((er1.set q1).set q2).set q3)⟩
            · simp only [Re.bnd, List.length_set, if_pos hi, if_pos hj, if_neg hk] at g1
              exact g1.elim
          · simp only [Re.bnd, List.length_set, if_pos hi, if_neg hj] at g1
            exact g1.elim
        · simp only [if_neg hi] at g1
          exact g1.elim
    · exact h1.elim
  · exact h1.elim
end
end Mi
end
section
set_option Elab.async false
set_option linter.all false
set_option maxRecDepth 100000
set_option maxHeartbeats 8000000
/-! The check of statements is kept. -/
namespace Mi
open PySem PySem.Spec PyProof.Rows L2
section
variable {C : Cn}
theorem S.imp {X : Cx} {st : Stmt} {t u : TS} (h : PS X st t) (k : ∀ D σ H, u D σ H → t D σ H) : PS X st u := ⟨fun pins s σ H D I z => h.run pins s σ H D I (k D σ H z)⟩
theorem Ss.imp {X : Cx} {st : List Stmt} {t u : TS} (h : PSs X st t) (k : ∀ D σ H, u D σ H → t D σ H) : PSs X st u := ⟨fun pins s σ H D I z => h.run pins s σ H D I (k D σ H z)⟩
/-- name = [..], stored ahead of the block's end -/
theorem s_setLc {X : Cx} {W : WX} {g : G} {i : Nat} {y : Str} {py pos spos : Pos} {c : CE} {elt : Expr} {gs : List Comprehension} {scope : Scope} (ox : XOk X C W g) (hk : X.env.scope.kind = .function) (hy : X.N[i]? = some y) (hyl : X.env.scope.names.lookup y = some .local)
    (h : okE g c (.ListComp elt gs scope pos) = true) (hl : (py.line == pos.line) = true) (ha : (scope.names.any fun (n, k) => n == y && (k == .local || k == .cell)) = false) :
    PS X (.Assign [.Name y py] (.ListComp elt gs scope pos) spos) (tAsg (tE X.K C W c) (gName i)) := by
  cases c with
  | lc live el tg it cs own =>
    obtain ⟨hn, h⟩ := cold_i (show (g.cold && xLc _ (Expr.ListComp elt gs scope pos)) = true from h)
    obtain ⟨elt', t, itx, fs, scope', q, e, h⟩ := xLc_i h
    cases e
    simp only [Bool.and_eq_true] at h
    obtain ⟨h1, h2, h3, h4, h5, h6, h7, h8⟩ := h
    obtain ⟨o, bo, rfl⟩ := own_of ox h3
    have ht : ∀ (s : Shared) (H : Hp) (B : Addr) (cl : List (Str × Addr)) (fp : List Addr), PTs (X.blk s H scope (compEnvC scope cl B X.env) fp) fs (tTs X.K C cs) := fun s H B cl fp => by
      match cs, fs, h7, h8 with
      | [], [], _, _ => exact ⟨fun pins s σ H Q I z => pts_nil.run pins s σ H Q I (i_ts0 z)⟩
      | [c], [f], h7, _ =>
        have h7 : (okE (g.blk scope) c f && okEs (g.blk scope) [] []) = true := h7
        rw [Bool.and_eq_true] at h7
        exact ⟨fun pins s' σ H' Q I z => (pts_one (sE c (ox.blk hn (s := s) (H := H) (cl := cl) (B := B) (fp := fp)) h7.1).2).run pins s' σ H' Q I (i_ts1 z)⟩
      | [], _ :: _, h7, _ => cases h7
      | [c], [], h7, _ => cases h7
      | [c], _ :: _ :: _, h7, _ => exact absurd h7 (by intro z; rw [okEs, Bool.and_eq_true] at z; cases z.2)
      | _ :: _ :: _, _, _, h8 => simp at h8
    refine S.imp (ps_setLc (ox.calm hn) ox.nd hy hyl (sw_true hk hyl hl ha) (sI it ox h1) bo (fun s H B cl fp => sT tg (W := noW) (ox.blk hn (s := s) (H := H) (cl := cl) (B := B) (fp := fp)) h4) ht (fun s H B cl fp => (sE el (ox.blk hn (s := s) (H := H) (cl := cl) (B := B) (fp := fp)) h6).1) (fold_of h2) (te := tE X.K C noW el) (g := tG X.K C tg) (wi := tI X.K C W it) (tt := tTs X.K C cs)) fun D σ H z => ?_
    exact i_lc (W := W) (live := live) (ox.nhot hn).1 (fun i hi => of_decide_eq_true (allD h5 i hi)) z
  | _ => exact absurd h (by intro z; first | (cases z; done) | cases (cold_i (b := false) z).2)
theorem i_asgN {K : PySem.W.Frag} {W : WX} {i : Nat} {c : CE} {D : Ends} {σ : L2.St} {H : Hp} (h : tS K C W (.asg (.name i) c) D σ H) : tAsg (tE K C W c) (gName i) D σ H := by
  obtain ⟨ω, e, rfl, r, er, h⟩ := i_asg h
  exact ⟨ω, e, rfl, r, er, h.imp fun ω1 d ev r1 k v rv => i_gname (k v rv)⟩
theorem pa2 {X : Cx} {W : WX} {a b : Expr} {ca cb : CE} (ha : PE X a (tE X.K C W ca)) (hb : PE X b (tE X.K C W cb)) (h1 : starEach [a, b] X.env = (false, eval a X.env) :: starEach [b] X.env) (h2 : starEach [b] X.env = (false, eval b X.env) :: starEach [] X.env) :
    PA X [a, b] (tA X.K C W [ca, cb]) := s_cons ha (s_cons hb s_nil h2) h1
theorem pa3 {X : Cx} {W : WX} {a b c : Expr} {ca cb cc : CE} (ha : PE X a (tE X.K C W ca)) (hb : PE X b (tE X.K C W cb)) (hc : PE X c (tE X.K C W cc)) (h1 : starEach [a, b, c] X.env = (false, eval a X.env) :: starEach [b, c] X.env) (h2 : starEach [b, c] X.env = (false, eval b X.env) :: starEach [c] X.env)
    (h3 : starEach [c] X.env = (false, eval c X.env) :: starEach [] X.env) : PA X [a, b, c] (tA X.K C W [ca, cb, cc]) := s_cons ha (s_cons hb (s_cons hc s_nil h3) h2) h1
theorem sA {t : CT} {c : CE} {X : Cx} {W : WX} {g : G} {te e : Expr} {p : Pos} (ox : XOk X C W g) (hk : X.env.scope.kind = .function) (h : okA g t c te e = true) : PS X (.Assign [te] e p) (tS X.K C W (.asg t c)) := by
  have gen : ∀ {t c}, (plainB g.sc te e && (okT g t te && okE g c e)) = true → PS X (.Assign [te] e p) (tS X.K C W (.asg t c)) := fun {t c} h => by
    simp only [Bool.and_eq_true] at h
    rw [← ox.sc] at h
    obtain ⟨h1, h2, h3⟩ := plain_of (l := p.line) hk h.1
    exact S.imp (ps_asg (sE c ox h.2.2).1 (sT t (W := W) ox h.2.1) h1 h2 h3) fun D σ H => i_asg
  cases t with
  | name i =>
    simp only [okA] at h
    obtain ⟨x, q, rfl, h2⟩ := xNameP_i h
    simp only [Bool.and_eq_true, Bool.or_eq_true] at h2
    obtain ⟨hs, he, hc⟩ := h2
    obtain ⟨n1, l1, f1⟩ := stoB_of ox hs
    rcases hc with hc | hc
    · have sw : swapsWith e (some (.Name x q)) p.line X.env = pure false := by
        unfold lcC at hc
        split at hc
        · rename_i elt gs scope pos
          rw [decide_eq_true_eq] at hc
          have : X.env.kindOf x = some .cell := by show X.env.scope.names.lookup x = _; rw [ox.sc]; exact hc
          have e1 : (some NameKind.cell == some NameKind.local) = false := rfl
          simp only [swapsWith, this, e1, Bool.and_false, Bool.false_and]
        · exact swaps_of hc
      exact S.imp (ps_set ox.nd n1 l1 (sE c ox he).1 sw f1) fun D σ H => i_asgN
    · unfold lcB at hc
      split at hc
      · simp only [Bool.and_eq_true, decide_eq_true_eq, Bool.not_eq_true'] at hc
        exact S.imp (s_setLc ox hk n1 (by rw [ox.sc]; exact hc.1.1) he hc.1.2 hc.2) fun D σ H => i_asgN
      · cases hc
  | tup ts =>
    simp only [okA] at h
    obtain ⟨hn, h⟩ := cold_i h
    rw [Bool.or_eq_true] at h
    rcases h with h | h
    · split at h
      · split at h
        · simp only [Bool.and_eq_true, decide_eq_true_eq] at h
          obtain ⟨h1, h2, h3, h4, h5, h6, h7, h8, h9⟩ := h
          have st := star_cons (env := X.env) h9
          have st2 := star_cons (env := X.env) st.2
          rw [← ox.sc] at h2 h5 h6
          rw [← ox.N] at h3 h4
          exact S.imp (ps_par (ox.calm hn) ox.nd h3 h4 h1 h5 h6 (pa2 (sE _ ox h7).1 (sE _ ox h8).1 st.1 st2.1) (swp_of hk h2) rfl) fun D σ H => i_par
        · cases h
      · split at h
        · simp only [Bool.and_eq_true, decide_eq_true_eq] at h
          obtain ⟨h1, h2, h3, h4, h5, h6, h7, h8⟩ := h
          have st := star_cons (env := X.env) h8
          have st2 := star_cons (env := X.env) st.2
          have st3 := star_cons (env := X.env) st2.2
          rw [← ox.sc] at h2 h4
          rw [← ox.N] at h3
          exact S.imp (ps_par3 (ox.calm hn) ox.nd h3.1 h3.2.1 h3.2.2 h1.1 h1.2.1 h1.2.2 h4.1 h4.2.1 h4.2.2 (pa3 (sE _ ox h5).1 (sE _ ox h6).1 (sE _ ox h7).1 st.1 st2.1 st3.1) (swp_of hk h2) rfl) fun D σ H => i_par3
        · cases h
      · cases h
    · exact gen h
  | star ts i => exact gen h
  | sub o i => exact gen h
  | att o f => exact gen h
/-- in a try's body -/
theorem XOk.tr {X : Cx} {W W' : WX} {g : G} (ox : XOk X C W g) {pn : List (Addr × Obj)} {xe : Value → Shared → Prop} (hn : g.hot = none) (tk : Takes (X.tr pn xe) W') (own : PassesOwn (model X.prog X.w) X.A X.env xe) : XOk (X.tr pn xe) C W' g where
  sc := ox.sc
  N := ox.N
  nd := ox.nd
  w := ox.w
  calm := ox.calm
  un := ox.un
  gu := ox.gu
  tk := tk
  own := own
  cells := ox.cells
  free := ox.free
  gl := ox.gl
  fns := ox.fns
  fnn := ox.fnn
  fn := fun hn k hk => let ⟨np, F⟩ := ox.fn hn k hk; ⟨np, F.keep, F.len, F.run⟩
  nhot := ox.nhot
  hotx := fun i hi => by rw [hn] at hi; cases hi
  tops := ox.tops
  xg := ox.xg
  xr := fun hn c hc => let ⟨np, fl, hx, z⟩ := ox.xr hn c hc; ⟨np, fl, hx, z.T, z.run⟩
  xsub := ox.xsub
  fnk := ox.fnk
  sys := ox.sys
/-- in a suite -/
theorem XOk.suite {X : Cx} {W : WX} {g : G} (ox : XOk X C W g) {i c c' : Nat} {k : Bool} {fs : List (Sg × D)} {a : Addr} {oe : Obj} {d : Option Addr} {pn : List (Addr × Obj)} (hs : C.P.xsub c' c = some k) (hz : Zc (.ref (C.L.ga c')) d oe) (hf : ∃ vs, oe.data = .fields vs) :
    XOk (X.suite a ((a, oe) :: pn)) (C.hotAt i a d c' fs) noW { g with hot := some i } where
  sc := ox.sc
  N := ox.N
  nd := ox.nd
  w := ox.w
  calm := fun z => by cases z
  un := ox.un
  gu := ox.gu
  tk := fun u s' ⟨a, B', sI, pins, σ, H, cls, d, _, _, _, _, _, _, _, _, z⟩ => z.elim
  own := PassesOwn.never
  cells := ox.cells
  free := ox.free
  gl := fun x k hx => let ⟨u, v, h1, h2, h3⟩ := ox.gl x k hx; ⟨u, v, h1, h2, fun ω => (RV_at _).mpr (h3 ω)⟩
  fns := ox.fns
  fnn := ox.fnn
  fn := fun z => by cases z
  nhot := fun z => by cases z
  hotx := fun j hj => by
    cases hj
    obtain ⟨_, _, h3, h4, h5⟩ := ox.xsub c' c k hs
    exact ⟨X, a, oe, d, c', fs, pn, rfl, rfl, rfl, hz, hf, h3, h4, h5, fun t b ht => (ox.xsub c' t b ht).2.1⟩
  tops := ox.tops
  xg := ox.xg
  xr := fun z => by cases z
  xsub := ox.xsub
  fnk := ox.fnk
  sys := ox.sys
mutual
theorem sS : ∀ (s : CS) {C : Cn} {X : Cx} {W : WX} {g : G} {st : Stmt}, XOk X C W g → X.env.scope.kind = .function → okT1 g s st = true → PS X st (tS X.K C W s)
  | .exp c, C, X, W, g, st, ox, hk, h0 => by
    obtain ⟨e, p, rfl, h⟩ := yExp_i (show yExp _ st = true from h0)
    rw [Bool.and_eq_true] at h
    exact S.imp (ps_expr (sE c ox h.1).1 (swaps_of h.2)) fun D σ H => i_exp
  | .asg t c, C, X, W, g, st, ox, hk, h0 => by
    obtain ⟨te, e, p, rfl, h⟩ := ySet_i (show ySet (fun x e _ => okA g t c x e) st = true from h0)
    exact sA ox hk h
  | .aug i o c, C, X, W, g, st, ox, hk, h0 => by
    obtain ⟨x, p, op, e, q, rfl, h⟩ := yAug_i (show yAug _ st = true from h0)
    simp only [Bool.and_eq_true] at h
    obtain ⟨h1, h2, h3, h4⟩ := h
    obtain ⟨n1, l1, f1⟩ := stoB_of ox h1
    cases o <;> cases op <;> try (cases h3; done)
    · exact S.imp (ps_aug ox.nd n1 l1 (sE c ox h4).1 ip_add f1) fun D σ H => i_aug (.inl ⟨rfl, rfl⟩)
    · exact S.imp (ps_aug ox.nd n1 l1 (sE c ox h4).1 ip_sub f1) fun D σ H => i_aug (.inr ⟨rfl, rfl⟩)
  | .ret c, C, X, W, g, st, ox, hk, h0 => by
    obtain ⟨e, p, rfl, h⟩ := yRet_i (show yRet _ st = true from h0)
    split at h
    · exact S.imp (ps_ret (sE c ox h).1) fun D σ H => i_ret
    · split at h
      · refine S.imp ps_retN fun D σ H z => ?_
        obtain ⟨ω, e, rfl, r, er, h⟩ := z
        exact h ω .non (Ev.refl _) r rfl rfl
      · cases h
  | .ite c a b, C, X, W, g, st, ox, hk, h0 => by
    obtain ⟨e, x, y, p, rfl, h⟩ := yIf_i (show yIf _ st = true from h0)
    simp only [Bool.and_eq_true] at h
    exact S.imp (ps_if (sE c ox h.1).2 (sSs a ox hk h.2.1) (sSs b ox hk h.2.2)) fun D σ H => i_ifs
  | .for_ t it b, C, X, W, g, st, ox, hk, h0 => by
    obtain ⟨hn, h0'⟩ := cold_i (show (g.cold && yFor _ st) = true from h0)
    obtain ⟨x, i, y, p, rfl, h⟩ := yFor_i h0'
    simp only [Bool.and_eq_true] at h
    exact S.imp (ps_for ox.own (ox.calm hn) (sI it ox h.1) (sT t (W := W) ox h.2.1) (sSs b ox hk h.2.2.1) (fold_of h.2.2.2)) fun D σ H => i_for
  | .whl c b, C, X, W, g, st, ox, hk, h0 => by
    obtain ⟨e, y, p, rfl, h⟩ := yWhl_i (show yWhl _ st = true from h0)
    simp only [Bool.and_eq_true] at h
    exact S.imp (ps_while ox.own (sE c ox h.1).2 (sSs b ox hk h.2)) fun D σ H => i_whl
  | .brk, C, X, W, g, st, ox, hk, h0 => by
    have h : isBrk st = true := h0
    cases st <;> first | (cases h; done) | exact S.imp ps_break fun D σ H => i_brk
  | .cnt, C, X, W, g, st, ox, hk, h0 => by
    have h : isCnt st = true := h0
    cases st <;> first | (cases h; done) | exact S.imp ps_continue fun D σ H => i_cnt
  | .pass, C, X, W, g, st, ox, hk, h0 => by
    have h : isPass st = true := h0
    cases st <;> first | (cases h; done) | exact S.imp ps_pass fun D σ H => i_pass
  | .rse c es, C, X, W, g, st, ox, hk, h0 => by
    obtain ⟨hn, h0'⟩ := cold_i (show (g.cold && yRse _ st) = true from h0)
    obtain ⟨x, p, e, xs, q, r, rfl, h⟩ := yRse_i h0'
    simp only [Bool.and_eq_true, decide_eq_true_eq] at h
    obtain ⟨h1, h2, h3, h4⟩ := h
    obtain ⟨l1, g1, d1⟩ := okK_of ox h2
    have st1 := star_cons (env := X.env) h4
    obtain ⟨np, fl, hx, T, fI, fd, ps, i1, i2, i3, i4, i5⟩ := ox.xr hn c h1.1
    exact S.imp (ps_raise (ox.calm hn) ox.tk (pmk_oex T.cls i1 i2 i3 i4 i5 .nil pass0 g1 (ox.xg x c l1 h1.2) (sEs es ox h3 h4) d1 st1.1 (back_any (env := X.env) st1.2))) fun D σ H z => i_rse T hx z
  | .trA b c i h, C, X, W, g, st, ox, hk, h0 => by
    have h0 : ((g.cold && g.top) && yTry _ st) = true := h0
    rw [Bool.and_eq_true, Bool.and_eq_true] at h0
    obtain ⟨⟨hc, htop⟩, h0⟩ := h0
    have hn : g.hot = none := Option.isNone_iff_eq_none.mp hc
    obtain ⟨xb, y, yp, n, s0, ss, q, r, rfl, hh⟩ := yTry_i h0
    simp only [Bool.and_eq_true, decide_eq_true_eq] at hh
    obtain ⟨h1, h2, h3, h4, h5, h6⟩ := hh
    obtain ⟨l1, g1, d1⟩ := okK_of ox h2
    obtain ⟨t1, t2⟩ := ox.tops htop
    obtain ⟨n1, n2⟩ := ox.nhot hn
    refine S.imp (ps_try_as (i := i) (c := .ref (C.L.ga c)) (Wout := W) (tb := fun W' => tSs X.K C W' b) (ts := tSuite X.K C i c h) t1 t2 ox.nd (by rw [ox.N]; exact h4) (by show X.env.scope.names.lookup n = _; rw [ox.sc]; exact h5) ⟨g1, d1, .inl (ox.xg y c l1 h1)⟩ ox.tk
      (fun W' pn xe tk own => sSs b (ox.tr hn tk own) hk h3)
      (fun a oe cls d pn hz hf => ⟨fun pins s σ H D I z => ?_⟩)) fun D σ H z => i_trA n2 n1 (fun c' k hs => (ox.xsub c' c k hs).1) z
    obtain ⟨c', fs, hs, rfl, z⟩ := z
    exact (sSs h (ox.suite (i := i) (fs := fs) hs hz hf) hk h6).run pins s σ H D I z
theorem sSs : ∀ (ss : List CS) {C : Cn} {X : Cx} {W : WX} {g : G} {st : List Stmt}, XOk X C W g → X.env.scope.kind = .function → okL g ss st = true → PSs X st (tSs X.K C W ss)
  | [], C, X, W, g, st, ox, hk, h0 => by
    have h : st.isEmpty = true := h0
    cases st with
    | nil => exact Ss.imp pss_nil fun D σ H => i_nils
    | cons _ _ => cases h
  | c :: cs, C, X, W, g, st, ox, hk, h0 => by
    cases st with
    | nil => cases h0
    | cons s ss =>
      have h : (okT1 g c s && okL g cs ss) = true := h0
      rw [Bool.and_eq_true] at h
      exact Ss.imp (pss_cons (sS c ox hk h.1) (sSs cs ox hk h.2)) fun D σ H => i_seqs
end
end
end Mi
end
section
set_option Elab.async false
set_option linter.all false
set_option maxRecDepth 100000
set_option maxHeartbeats 4000000
/-! The law is called. -/
namespace Mi
open PySem PySem.Spec PyProof.Rows L2
section
variable {P : Program} {w : World} {K : PySem.W.Frag} {mg mb : Str → Option Value} {a fa : Addr} {k : Nat} {fd : FuncData} {x : Str} {sp : Sp} {t : Shared} {vs : List Value} {ns : List Int} {H : Hp}
/-- the ground under the call: all but the script -/
theorem ground (KX : K.In t.heap) (G : t.heap.Ns mainGlobals mg) (hb : t.heap.Ns builtinsNs mb) (hbb : ∀ z : Str, z ≠ "__name__" → mb z = bootBuiltins z) (lim : t.heap.NoLimit) (hg : t.gens = #[])
    (ha : t.heap.get? a = some { cls := .type "list", data := .seq vs.toArray }) (ok : HOk P w H t.heap) (hA : ∀ b, H b ≠ none → b = a ∧ K.lookup a = none) :
    Env0 P w K mg (hidT t.heap H) callerA [] t H ∧ K.In (hidT t.heap H) ∧ (hidT t.heap H).Ns mainGlobals mg := by
  have off : ∀ b, b ≠ a → H b = none := fun b hb => by
    cases q : H b with
    | none => rfl
    | some u => exact absurd (hA b (by rw [q]; exact fun z => nomatch z)).1 hb
  have dic : ∀ {b : Addr} {m : Str → Option Value}, t.heap.Ns b m → (hidT t.heap H).Ns b m := fun {b m} ⟨o, es, ep, e, d, rest⟩ => by
    have hb : b ≠ a := fun z => by
      rw [z, ha] at e
      cases e
      cases d
    exact ⟨o, es, ep, hidT_get e (off b hb), d, rest⟩
  have kin : K.In (hidT t.heap H) := fun b o e => by
    refine hidT_get (KX b o e) ?_
    cases q : H b with
    | none => rfl
    | some u =>
      obtain ⟨z, z2⟩ := hA b (by rw [q]; exact fun z => nomatch z)
      rw [z, z2] at e
      cases e
  obtain ⟨mc, l1, l2⟩ := lim
  exact ⟨⟨rfl, ⟨kin, dic G, ⟨mb, dic hb, hbb⟩, ⟨mc, dic l1, l2⟩⟩, fun b o e => of_hidT e, Nat.le_of_eq (hidT_size _ _), trivial, (fun b hb => by cases hb), ok, .of_eq hg⟩, kin, dic G⟩
/-- what the script may be -/
theorem called (KX : K.In t.heap) (G : t.heap.Ns mainGlobals mg) (hb : t.heap.Ns builtinsNs mb) (hbb : ∀ z : Str, z ≠ "__name__" → mb z = bootBuiltins z) (lim : t.heap.NoLimit) (hg : t.gens = #[])
    (ha : t.heap.get? a = some { cls := .type "list", data := .seq vs.toArray }) (ok : HOk P w H t.heap) (hA : ∀ b, H b ≠ none → b = a ∧ K.lookup a = none) (hO : Only H) (hr : Room k callerA)
    (F : ∀ base : Heap, K.In base → base.Ns mainGlobals mg → FnG P w K mg base k fa fd [x] sp) (bind : ∀ (s : Shared) (u : Value), BindsTo s fd ⟨[u], []⟩ [(x, u)])
    (h : sp [.ref a] H (fun v _ => v = .bl true) fun _ _ _ => False) :
    codeAny (model P w) callerA (.call (.ref fa) ⟨[.ref a], []⟩) (fun res u => res = .ok (.ret (.bool true)) ∧ OldK t.heap u.heap ∧ u.os = t.os ∧ AllBare u.gens) t := by
  obtain ⟨e0, kin, gns⟩ := ground (P := P) (w := w) (H := H) KX G hb hbb lim hg ha ok hA
  refine codeAny_mono ((F _ kin gns).run callerA [] t H ⟨[.ref a], []⟩ [.ref a] [.ref a] _ _ hr rfl e0 (bind t (.ref a)) (.cons rfl .nil) h) fun res u q => ?_
  match res, q with
  | .error ex, q =>
    obtain ⟨_, _, _, _, _, _, _, _, _, _, _, _, z⟩ := (q : L2.CX P w [] H t (fun _ _ _ => False) ex u)
    exact z.elim
  | .ok (.ret r), q =>
    obtain ⟨v, H2, hos, bare, un, ok2, rv, q⟩ := q
    have q : v = .bl true := q
    subst q
    obtain rfl : r = Value.bool true := rv
    refine ⟨rfl, OldK.of_keep fun b o e => ?_, hos, bare⟩
    rcases hO b with z | ⟨ob, xs, z⟩
    · exact un.keep b o e z (fun y => by cases y) (fun y => by cases y)
    · obtain ⟨e1, _⟩ := ok b _ z
      obtain ⟨e2, _⟩ := ok2 b _ (un.frzs b ob _ z)
      rw [e] at e1
      cases e1
      exact e2
  | .ok .next, q => exact q.elim
  | .ok .brk, q => exact q.elim
  | .ok .cont, q => exact q.elim
/-- the law's promise, at the heap behind the top -/
theorem callG (KX : K.In t.heap) (G : t.heap.Ns mainGlobals mg) (hb : t.heap.Ns builtinsNs mb) (hbb : ∀ z : Str, z ≠ "__name__" → mb z = bootBuiltins z) (lim : t.heap.NoLimit) (hg : t.gens = #[])
    (ha : t.heap.get? a = some { cls := .type "list", data := .seq vs.toArray }) (hi : IntsAre vs ns) (hl : ns.length ≤ sizeLine) (hr : Room k callerA)
    (F : ∀ base : Heap, K.In base → base.Ns mainGlobals mg → FnG P w K mg base k fa fd [x] sp) (bind : ∀ (s : Shared) (u : Value), BindsTo s fd ⟨[u], []⟩ [(x, u)])
    (h : ∀ H : Hp, Only H → ((∃ o, H a = some (.frz o (.lst (ns.map V.int)))) ∨ SqL K noH a (ns.map V.int)) → sp [.ref a] H (fun v _ => v = .bl true) fun _ _ _ => False) :
    codeAny (model P w) callerA (.call (.ref fa) ⟨[.ref a], []⟩) (fun res u => res = .ok (.ret (.bool true)) ∧ OldK t.heap u.heap ∧ u.os = t.os ∧ AllBare u.gens) t := by
  have rv := vals_ints hi
  have lv := hi.length
  cases hk : K.lookup a with
  | some o =>
    -- one of the module's own lists
    have e := KX a o hk
    rw [ha] at e
    cases e
    have sq : SqL K noH a (ns.map V.int) := .inr ⟨_, vs.toArray, _, hk, rfl, rfl, rfl, by rw [List.size_toArray, lv]; exact hl, by simpa using rv⟩
    refine called (H := noH) KX G hb hbb lim hg ha (fun b u z => by cases z) (fun b z => absurd rfl z) (fun _ => .inl rfl) hr F bind (h noH (fun _ => .inl rfl) (.inr sq))
  | none =>
    have at_ : upd noH a (.frz { cls := .type "list", data := .seq vs.toArray } (.lst (ns.map V.int))) a = some (.frz { cls := .type "list", data := .seq vs.toArray } (.lst (ns.map V.int))) := upd_same
    have off : ∀ b, b ≠ a → upd noH a (.frz { cls := .type "list", data := .seq vs.toArray } (.lst (ns.map V.int))) b = none := fun b hb => upd_ne hb
    generalize upd noH a (.frz { cls := .type "list", data := .seq vs.toArray } (.lst (ns.map V.int))) = H at at_ off
    have only : Only H := fun b => by
      by_cases e : b = a
      · exact .inr ⟨_, _, by rw [e]; exact at_⟩
      · exact .inl (off b e)
    refine called (H := H) KX G hb hbb lim hg ha (fun b u z => ?_) (fun b z => ?_) only hr F bind (h H only (.inl ⟨_, at_⟩))
    · by_cases e : b = a
      · subst e
        rw [at_] at z
        cases z
        exact ⟨ha, by rw [List.length_map]; exact hl, vs, _, rv, ha⟩
      · rw [off b e] at z; cases z
    · by_cases e : b = a
      · exact ⟨e, hk⟩
      · exact absurd (off b e) z
/-- a law: F gives the written part, the function object, the promise over every base -/
theorem walkG {l : PySem.W.OpenLaw} {n k : Nat} {q : Program} {loose : List Str} {XP : (Str → Option Value) → Heap → Prop} {YP : World → Heap → Prop} {d : DefRec} {x : Str}
    (hn : l.most = some n) (hn2 : n ≤ sizeLine) (hdf : d.params.defaults = []) (hr : Room k callerA)
    (F : ∀ (w : World) (mg : Str → Option Value) (fa : Addr) (h : Heap), YP w h → h.Ns mainGlobals mg → mg d.name = some (.ref fa) →
      ∃ (K : PySem.W.Frag) (fd : FuncData) (sp : Sp), K.In h ∧ (∀ (s : Shared) (u : Value), BindsTo s fd ⟨[u], []⟩ [(x, u)]) ∧
        (∀ (H : Hp) (a : Addr) (ns : List Int), ns.length ≤ n → Only H → ((∃ o, H a = some (.frz o (.lst (ns.map V.int)))) ∨ SqL K noH a (ns.map V.int)) → sp [.ref a] H (fun v _ => v = .bl true) fun _ _ _ => False) ∧
        ∀ base : Heap, K.In base → base.Ns mainGlobals mg → FnG l.prog w K mg base k fa fd [x] sp) :
    PySem.W.WalkO q loose XP YP l.row.toRowW d [] (fun f vs => PySem.call f vs) := by
  refine Att.attach_call hn hdf fun w s0 s1 mg mb fa o pm cd doc a vs ns G Y ho hd hcd hmg hobj hints hlen hg => ?_
  obtain ⟨K, fd, sp, KX, bind, hsp, hF⟩ := F w mg fa _ Y G.T.g hmg
  exact callG KX G.T.g G.T.b G.T.builtins G.T.nolimit hg hobj hints (Nat.le_trans hlen hn2) hr hF bind fun H hO hS => hsp H a ns hlen hO hS
end
end Mi
end
section
set_option Elab.async false
set_option linter.all false
set_option maxRecDepth 100000
set_option maxHeartbeats 4000000
/-! The table of defs: each keeps what the interpreter says. -/
namespace Mi
open PySem PySem.Spec PyProof.Rows L2
/-- a def: as it is written, the slots' names, as it is told -/
structure DefE where
  d : He.DefD
  N : List Str
  fd : Mi.FnD
/-- an exception class's own __init__: the base whose __init__ it calls, as it is written, its slots, how many it is given, what it keeps -/
structure XcI where
  base : Str
  d : He.DefD
  N : List Str
  np : Nat
  fl : List (Sg × Nat)
/-- an exception class: its name, the places of the classes above it (its own too) -/
structure XcE where
  nm : Str
  sup : List Nat
  ini : Option XcI
/-- the module: its defs, its constants, its exceptions -/
structure Md where
  tab : List DefE
  con : List (Str × D)
  subc : Nat → Nat → Bool := fun _ _ => false
  xs : List XcE := []
  flds : List Sg := []
def Md.c0 (m : Md) : Nat := m.tab.length + m.con.length
def Md.xcOf (m : Md) (c : Nat) : Option XcE := if c < m.c0 then none else m.xs[c - m.c0]?
def Md.xinOf (m : Md) (c : Nat) : Option (Nat × List (Sg × Nat)) := (m.xcOf c).bind fun e => e.ini.map fun i => (i.np, i.fl)
def Md.xsubOf (m : Md) (c' c : Nat) : Option Bool := (m.xcOf c').bind fun e => if c < m.c0 ∨ m.xs.length ≤ c - m.c0 then none else some (decide (c - m.c0 ∈ e.sup))
def Md.pg (m : Md) : Pg := ⟨fun g => (m.tab[g]?).map (·.fd), fun g => if g < m.tab.length then none else (m.con[g - m.tab.length]?).map (·.2), m.subc, m.xinOf, m.xsubOf, none⟩
def Md.xt (m : Md) : List (List Nat × Option (Nat × List (Sg × Nat))) := m.xs.map fun e => (e.sup, e.ini.map fun i => (i.np, i.fl))
theorem Md.pg_eq (m : Md) : m.pg = ⟨fun g => (m.tab.map (·.fd))[g]?, fun g => if g < m.tab.length then none else (m.con.map (·.2))[g - m.tab.length]?, m.subc, xinG m.c0 m.xt, xsubG m.c0 m.xt, none⟩ := by
  have e1 : m.xinOf = xinG m.c0 m.xt := by
    funext c
    unfold Md.xinOf xinG Md.xcOf Md.xt
    split
    · rfl
    · rw [List.getElem?_map]
      cases m.xs[c - m.c0]? <;> rfl
  have e2 : m.xsubOf = xsubG m.c0 m.xt := by
    funext c' c
    unfold Md.xsubOf xsubG Md.xcOf Md.xt
    split
    · rfl
    · rw [List.getElem?_map, List.length_map]
      cases m.xs[c' - m.c0]? <;> rfl
  rw [← e1, ← e2]
  simp only [Md.pg, List.getElem?_map]
def Md.gl (m : Md) : List (Str × Nat) := ((m.tab.zipIdx).filterMap fun p => match p.1.d.at_.2 with
  | none => some (p.1.d.at_.1, p.2)
  | some _ => none) ++ ((m.con.zipIdx).map (fun p => (p.1.1, m.tab.length + p.2)) ++ (m.xs.zipIdx).map fun p => (p.1.nm, m.c0 + p.2))
def Md.g (m : Md) (gl : List (Str × Nat)) (fs : List Nat) (e : DefE) : G := ⟨e.N, e.d.scope, gl, (e.d.scope.names.filter fun y => y.2 == .cell).map (·.1), fs, (List.range m.xs.length).map (m.c0 + ·), (List.range m.xs.length).filterMap (fun j => ((m.xs[j]?).bind (·.ini)).map fun _ => m.c0 + j), m.flds, none, true⟩
/-- a def is well told -/
def Md.okD (m : Md) (gl : List (Str × Nat)) (fs : List Nat) (e : DefE) : Bool :=
  (match e.d.scope.kind with | .function => true | _ => false) && !e.d.scope.isCoroutine && !e.d.scope.isGenerator && decide (e.N.Nodup) && decide (e.fd.ps ≤ e.N.length) && decide (e.N.length = e.fd.ps + e.fd.nl) &&
    ((e.N.take e.fd.ps).all fun x => decide (e.d.scope.names.lookup x = some .local) || decide (e.d.scope.names.lookup x = some .cell)) && (e.d.scope.names.all fun y => !(y.2 == .free)) && e.d.dfl.isEmpty && e.d.kwd.isEmpty && okL (m.g gl fs e) e.fd.body e.d.body
def DefE.ps (e : DefE) : List Str := e.N.take e.fd.ps
/-- its parameters are bound one by one -/
def BindOk (e : DefE) : Prop := ∀ (kV doc pm : Value) (an : Option Addr) (cdv ct : Value) (us : List Value), us.length = e.ps.length → bindArgs (PySem.W.fnOf e.d.name e.d.qual e.d.params e.d.body e.d.scope .none kV doc pm an cdv ct) ⟨us, []⟩ = pure (e.ps.zip us)
section
variable {m : Md} {gl : List (Str × Nat)} {fs : List Nat} {e : DefE}
theorem okD_scope (h : m.okD gl fs e = true) : FnScope e.N e.ps e.d.scope ∧ e.ps.length = e.fd.ps ∧ e.N.length = e.fd.ps + e.fd.nl ∧ e.d.dfl = [] ∧ e.d.kwd = [] ∧ okL (m.g gl fs e) e.fd.body e.d.body = true := by
  simp only [Md.okD, Bool.and_eq_true, Bool.not_eq_true', decide_eq_true_eq, List.all_eq_true, Bool.or_eq_true, List.isEmpty_iff] at h
  obtain ⟨⟨⟨⟨⟨⟨⟨⟨⟨⟨h1, h2⟩, h3⟩, h4⟩, h5⟩, h6⟩, h7⟩, h8⟩, h9⟩, h10⟩, h11⟩ := h
  have hl : e.ps.length = e.fd.ps := by unfold DefE.ps; rw [List.length_take]; omega
  refine ⟨⟨?_, h2, h3, h4, ?_, h7, fun y hy z => ?_⟩, hl, h6, h9, h10, h11⟩
  · split at h1
    · assumption
    · cases h1
  · rw [hl]; rfl
  · have := h8 y hy
    rw [z] at this
    cases this
theorem mem_zip {α : Type} {l : List α} {a : α} {j : Nat} (h : (a, j) ∈ l.zipIdx) : l[j]? = some a := by
  obtain ⟨h1, h2⟩ := List.mem_zipIdx' h
  rw [List.getElem?_eq_getElem h1]
  exact congrArg some h2.symm
theorem mem_gl {x : Str} {k : Nat} (h : m.gl.lookup x = some k) : (∃ e, m.tab[k]? = some e ∧ e.d.at_ = (x, none)) ∨ (∃ d, m.tab.length ≤ k ∧ m.con[k - m.tab.length]? = some (x, d)) ∨ ∃ e, m.c0 ≤ k ∧ m.xs[k - m.c0]? = some e ∧ e.nm = x := by
  have hm : (x, k) ∈ m.gl := PySem.mem_of_lookup h
  rcases List.mem_append.mp hm with hm | hm
  · obtain ⟨⟨e, j⟩, hp, hq⟩ := List.mem_filterMap.mp hm
    have hj := mem_zip hp
    dsimp only at hq
    cases q : e.d.at_.2 with
    | some y => rw [q] at hq; cases hq
    | none =>
      rw [q] at hq
      cases hq
      refine .inl ⟨e, hj, ?_⟩
      rw [← q]
  · rcases List.mem_append.mp hm with hm | hm
    · obtain ⟨⟨⟨y, d⟩, j⟩, hp, hq⟩ := List.mem_map.mp hm
      have hj := mem_zip hp
      cases hq
      exact .inr (.inl ⟨d, Nat.le_add_right _ _, by rw [Nat.add_sub_cancel_left]; exact hj⟩)
    · obtain ⟨⟨e, j⟩, hp, hq⟩ := List.mem_map.mp hm
      have hj := mem_zip hp
      cases hq
      exact .inr (.inr ⟨e, Nat.le_add_right _ _, by rw [Nat.add_sub_cancel_left]; exact hj, rfl⟩)
end
/-- the module stands in K -/
structure MgOk (m : Md) (L : Lnk) (K : PySem.W.Frag) (mg : Str → Option Value) : Prop where
  hot : L.hot = none
  free : ∀ x ∈ bNames, mg x = none
  fn : ∀ (k : Nat) (e : DefE), m.tab[k]? = some e → ∃ fd, FunD K e.d.name e.d.qual e.d.params e.d.body e.d.scope [] [] (L.ga k) fd
  glo : ∀ (k : Nat) (e : DefE) (x : Str), m.tab[k]? = some e → e.d.at_ = (x, none) → mg x = some (.ref (L.ga k))
  con : ∀ (j : Nat) (x : Str) (d : D), m.con[j]? = some (x, d) → ∃ u v, mg x = some u ∧ RelV v u ∧ ∀ ω, RV K L ω d v
  sys : SysD K
  xg : ∀ (j : Nat) (e : XcE), m.xs[j]? = some e → mg e.nm = some (.ref (L.ga (m.c0 + j)))
  xm : ∀ (j k : Nat) (e : XcE), m.xs[j]? = some e → k < m.xs.length → PySem.W.exmOne K (.ref (L.ga (m.c0 + j))) (.ref (L.ga (m.c0 + k))) = some (decide (k ∈ e.sup)) ∧ PySem.W.kitOne K (.ref (L.ga (m.c0 + j))) (.ref (L.ga (m.c0 + k))) = some (decide (k ∈ e.sup))
  xf : ∀ (j : Nat) (e : XcE), m.xs[j]? = some e → XfC K (L.ga (m.c0 + j)) ∧ L2.ExcC K (L.ga (m.c0 + j)) ∧ ∀ f ∈ m.flds, PySem.W.findIn K (.ref (L.ga (m.c0 + j))) (toStr f) = some none
  xr : ∀ (j : Nat) (e : XcE) (i : XcI), m.xs[j]? = some e → e.ini = some i → OexC K (L.ga (m.c0 + j)) ∧ ∃ fI fd CB, PySem.W.findIn K (.ref (L.ga (m.c0 + j))) "__init__" = some (some (.ref fI)) ∧ PySem.W.typeIn K (.ref fI) = some (.type "function") ∧
    FunD K i.d.name i.d.qual i.d.params i.d.body i.d.scope [] [] fI fd ∧ BaseX K mg i.base CB
/-- an exception's own __init__ is well told -/
def Md.okI (m : Md) (i : XcI) : Bool := (match i.d.scope.kind with | .function => true | _ => false) && !i.d.scope.isCoroutine && !i.d.scope.isGenerator && decide (i.N.Nodup) && decide (i.N.length = i.np + 1) && (i.N.all fun x => decide (i.d.scope.names.lookup x = some .local)) && (i.d.scope.names.all fun y => !(y.2 == .free)) &&
  (i.fl.all fun f => decide (f.1 ∈ m.flds)) && decide (i.fl.length ≤ 100) && initB i.N i.d.scope i.base i.fl i.d.body
def BindOkI (i : XcI) : Prop := ∀ (kV doc pm : Value) (an : Option Addr) (cdv ct : Value) (us : List Value), us.length = i.N.length → bindArgs (PySem.W.fnOf i.d.name i.d.qual i.d.params i.d.body i.d.scope .none kV doc pm an cdv ct) ⟨us, []⟩ = pure (i.N.zip us)
theorem okI_scope {m : Md} {i : XcI} (h : m.okI i = true) : FnScope i.N i.N i.d.scope ∧ i.N.length = i.np + 1 ∧ (∀ f ∈ i.fl, f.1 ∈ m.flds) ∧ i.fl.length ≤ 100 ∧ initB i.N i.d.scope i.base i.fl i.d.body = true := by
  simp only [Md.okI, Bool.and_eq_true, Bool.not_eq_true', decide_eq_true_eq, List.all_eq_true] at h
  obtain ⟨⟨⟨⟨⟨⟨⟨⟨⟨h1, h2⟩, h3⟩, h4⟩, h5⟩, h6⟩, h7⟩, h8⟩, h9⟩, h10⟩ := h
  refine ⟨⟨?_, h2, h3, h4, by simp, fun x hx => .inl (h6 x hx), fun y hy z => ?_⟩, h5, h8, h9, h10⟩
  · split at h1
    · assumption
    · cases h1
  · have := h7 y hy
    rw [z] at this
    cases this
/-- what the interpreter says of the def g at level lv -/
def spI (K : PySem.W.Frag) (C : Cn) (g : Nat) : Sp := fun vs H Q E => ∃ ω ds, ω.H = H ∧ Rel K C.L ω ∧ RVs K C.L ω ds vs ∧
    Rn K C.L (C.F g ds ω.S) (fun ω' d => ∀ v, RV K C.L ω' d v → Q v ω'.H) (fun ω' c fs => ∀ dx, XR K C.L ω' fs dx → E (.ref (C.L.ga c)) dx ω'.H) ω
theorem callF_len {P : Pg} {W lv g : Nat} {d : Mi.FnD} (h : P.fn g = some d) {ds : List D} (hl : ds.length ≠ d.ps) (S : Mi.St) : callF P W lv g ds S = .stuck := by
  cases lv with
  | zero => rfl
  | succ lv => simp only [callF, h, if_neg hl]
theorem callF_none {P : Pg} {W lv g : Nat} (h : P.fn g = none) (ds : List D) (S : Mi.St) : callF P W lv g ds S = .stuck := by
  cases lv with
  | zero => rfl
  | succ lv => simp only [callF, h]
theorem env_start {K : PySem.W.Frag} {L : Lnk} (hh : L.hot = none) {ω : Wd} {N : List Str} : ∀ {ds : List D} {vs : List V} {nl : Nat}, RVs K L ω ds vs → N.length = ds.length + nl → EnvR K L ω (ds.map some ++ List.replicate nl none) (L2.start N vs) := by
  intro ds vs nl rs hN
  have hl := rs.length
  have e1 : N.length - vs.length = nl := by omega
  unfold L2.start
  rw [e1]
  refine ⟨⟨by simp [hl], fun i d q => ?_⟩, fun t ht => by rw [hh] at ht; cases ht⟩
  by_cases hi : i < ds.length
  · rw [List.getElem?_append_left (by simpa using hi), List.getElem?_map] at q
    cases q2 : ds[i]? with
    | none => rw [q2] at q; cases q
    | some d' =>
      rw [q2] at q
      cases q
      obtain ⟨v, h1, h2⟩ := rs.get q2
      refine ⟨v, ?_, h2⟩
      rw [List.getElem?_append_left (by simp; omega), List.getElem?_map, h1]
      rfl
  · rw [List.getElem?_append_right (by simp; omega)] at q
    rcases List.getElem?_eq_some_iff.mp q with ⟨h1, h2⟩
    simp at h2
section
variable {P : Program} {K : PySem.W.Frag} {mg : Str → Option Value} {m : Md} {L : Lnk} {fs : List Nat}
theorem fnTab (okx : ∀ e ∈ m.xs, ∀ i, e.ini = some i → m.okI i = true ∧ BindOkI i) (ok : ∀ e ∈ m.tab, m.okD m.gl fs e = true ∧ BindOk e) (hfs : ∀ k ∈ fs, k < m.tab.length) (M : MgOk m L K mg) : ∀ (lv k : Nat) (e : DefE), m.tab[k]? = some e →
    ∃ fd, PySem.W.keepIn K (.ref (L.ga k)) = true ∧ Binds K fd e.ps [] ∧ (∀ (s : Shared) (us : List Value), us.length = e.ps.length → BindsTo s fd ⟨us, []⟩ (e.ps.zip us)) ∧ ∀ base : Heap, FnG P L.w K mg base (lv + 2) (L.ga k) fd e.ps (spI K ⟨L, m.pg, callF m.pg TURNS lv⟩ k)
  | 0, k, e, he => by
    obtain ⟨fd, F⟩ := M.fn k e he
    refine ⟨fd, F.kp, F.bindsN (ok e (List.mem_of_getElem? he)).2, FunD.bindsA F (ok e (List.mem_of_getElem? he)).2, fun base => ⟨fun vs H Q E h => ?_, fun A outer s H args us vs Q E _ _ _ _ _ h => ?_⟩⟩
    · obtain ⟨ω, ds, _, _, _, h⟩ := h
      exact h.elim
    · obtain ⟨ω, ds, _, _, _, h⟩ := h
      exact h.elim
  | lv + 1, k, e, he => by
    obtain ⟨fd, F⟩ := M.fn k e he
    obtain ⟨okd, bd⟩ := ok e (List.mem_of_getElem? he)
    obtain ⟨S, hps, hN, _, _, hb⟩ := okD_scope okd
    have hfn : m.pg.fn k = some e.fd := by show (m.tab[k]?).map (·.fd) = _; rw [he]; rfl
    have binds := F.bindsN bd
    have bindA := FunD.bindsA F bd
    obtain ⟨oc, od, dV, kV, doc, pm, an, cdv, ct, osl, rfl, lk, hcd, _, _⟩ := F.ex
    refine ⟨_, F.kp, binds, bindA, fun base => fnG_of lk hcd S (fun vs H Q E h => ?_) fun A outer s H vs Q E hr gu h => ?_⟩
    · obtain ⟨ω, ds, _, _, rs, h⟩ := h
      have h : Rn K L (callF m.pg TURNS (lv + 1) k ds ω.S) _ _ ω := h
      by_cases hl : ds.length = e.fd.ps
      · rw [rs.length, hl, hps]
      · rw [callF_len hfn hl] at h
        exact h.elim
    · obtain ⟨ω, ds, hH, rl, rs, h⟩ := h
      have h : Rn K L (callF m.pg TURNS (lv + 1) k ds ω.S) (fun ω' d => ∀ v, RV K L ω' d v → Q v ω'.H) (fun ω' c fs => ∀ dx, XR K L ω' fs dx → E (.ref (L.ga c)) dx ω'.H) ω := h
      by_cases hl : ds.length = e.fd.ps
      · -- the context of the body
        have ox : XOk (cxOf (L2.CX P L.w) P L.w K mg base e.N e.d.qual e.d.scope (L.ga k) cdv A outer s H E) ⟨L, m.pg, callF m.pg TURNS lv⟩ (fun cls d _ H' => E cls d H') (m.g m.gl fs e) := by
          have hcls : ∀ {c : Nat}, c ∈ (m.g m.gl fs e).xs → ∃ j, j < m.xs.length ∧ c = m.c0 + j := fun {c} hc => by
            obtain ⟨j, hj, rfl⟩ := List.mem_map.mp hc
            exact ⟨j, List.mem_range.mp hj, rfl⟩
          have hxc : ∀ {j : Nat}, m.xcOf (m.c0 + j) = m.xs[j]? := fun {j} => by
            unfold Md.xcOf
            rw [if_neg (by omega), Nat.add_sub_cancel_left]
          refine ⟨rfl, rfl, S.nd, rfl, fun _ => rfl, ?_, gu, ?_, ?_, fun x _ => rfl, M.free, fun x j hx => ?_, fun x j hx hs => ?_, fun j hj ds S => callF_none (Option.isSome_eq_false_iff.mp hj |> Option.isNone_iff_eq_none.mp) ds S, fun _ j hj => ?_, fun _ => ⟨M.hot, rfl⟩, fun i hi => (by cases hi), fun _ => ⟨rfl, rfl⟩, fun x c hx hc => ?_, fun _ c hc => ?_, fun c' c k hs => ?_, fun j hj => ?_, M.sys⟩
          · have := hr.un
            show (A.deeper _).units + 65 < cLine
            omega
          · exact takes_of (X := cxOf (L2.CX P L.w) P L.w K mg base e.N e.d.qual e.d.scope (L.ga k) cdv A outer s H E) (E := E) rfl rfl rfl rfl
          · exact passes_of (X := cxOf (L2.CX P L.w) P L.w K mg base e.N e.d.qual e.d.scope (L.ga k) cdv A outer s H E) rfl
          · rcases mem_gl hx with ⟨e', he', hat⟩ | ⟨d, hge, hc⟩ | ⟨e', hge, hc, rfl⟩
            · refine ⟨_, .ref (L.ga j), M.glo j e' x he' hat, rfl, fun ω => ?_⟩
              have : glD m.pg j = .glo j := by
                unfold glD
                have : m.pg.con j = none := if_pos (List.getElem?_eq_some_iff.mp he').1
                rw [this]
              show RV K L ω (glD m.pg j) (.ref (L.ga j))
              rw [this]
              rfl
            · obtain ⟨u, v, h1, h2, h3⟩ := M.con _ x d hc
              refine ⟨u, v, h1, h2, fun ω => ?_⟩
              have : glD m.pg j = d := by
                unfold glD
                have : m.pg.con j = some d := by
                  show (if j < m.tab.length then none else (m.con[j - m.tab.length]?).map (·.2)) = some d
                  rw [if_neg (by omega), hc]
                  rfl
                rw [this]
              show RV K L ω (glD m.pg j) v
              rw [this]
              exact h3 ω
            · have hm := M.xg _ e' hc
              have ej : m.c0 + (j - m.c0) = j := by omega
              rw [ej] at hm
              refine ⟨_, .ref (L.ga j), hm, rfl, fun ω => ?_⟩
              have : glD m.pg j = .glo j := by
                unfold glD
                have : m.pg.con j = none := by
                  show (if j < m.tab.length then none else (m.con[j - m.tab.length]?).map (·.2)) = none
                  have : m.c0 = m.tab.length + m.con.length := rfl
                  rw [if_neg (by omega), List.getElem?_eq_none (by omega)]
                  rfl
                rw [this]
              show RV K L ω (glD m.pg j) (.ref (L.ga j))
              rw [this]
              rfl
          · rcases mem_gl hx with ⟨e', he', hat⟩ | ⟨d, hge, hc⟩ | ⟨e', hge, hc, rfl⟩
            · exact M.glo j e' x he' hat
            · have hs : ((m.tab[j]?).map (·.fd)).isSome = true := hs
              rw [List.getElem?_eq_none hge] at hs
              cases hs
            · have hs : ((m.tab[j]?).map (·.fd)).isSome = true := hs
              have : m.c0 = m.tab.length + m.con.length := rfl
              rw [List.getElem?_eq_none (by omega)] at hs
              cases hs
          · have hj : ((m.tab[j]?).map (·.fd)).isSome = true := hj
            cases q : m.tab[j]? with
            | none => rw [q] at hj; cases hj
            | some e' =>
              obtain ⟨fd', h1, h2, _, h3⟩ := fnTab okx ok hfs M lv j e' q
              obtain ⟨_, hps', _⟩ := okD_scope (ok e' (List.mem_of_getElem? q)).1
              refine ⟨e'.fd.ps, h1, fun ds S hne => callF_len (by show (m.tab[j]?).map (·.fd) = _; rw [q]; rfl) hne S, lv + 2, fd', e'.ps, hr, hps', h2, h3 base⟩
          · obtain ⟨j, hj, rfl⟩ := hcls hc
            rcases mem_gl hx with ⟨e', he', hat⟩ | ⟨d, hge, hc2⟩ | ⟨e', hge, hc2, rfl⟩
            · have := (List.getElem?_eq_some_iff.mp he').1
              have : m.c0 = m.tab.length + m.con.length := rfl
              omega
            · have := (List.getElem?_eq_some_iff.mp hc2).1
              have : m.c0 = m.tab.length + m.con.length := rfl
              omega
            · rw [Nat.add_sub_cancel_left] at hc2
              exact M.xg j e' hc2
          · obtain ⟨j, hj, hj2⟩ := List.mem_filterMap.mp (show c ∈ (List.range m.xs.length).filterMap (fun j => ((m.xs[j]?).bind (·.ini)).map fun _ => m.c0 + j) from hc)
            cases q : m.xs[j]? with
            | none => rw [q] at hj2; cases hj2
            | some e' =>
              rw [q] at hj2
              cases q2 : e'.ini with
              | none => rw [Option.bind_some, q2] at hj2; cases hj2
              | some i =>
                rw [Option.bind_some, q2] at hj2
                cases hj2
                obtain ⟨T, fI, fd, CB, h1, h2, F, bx⟩ := M.xr j e' i q q2
                obtain ⟨hk, hb⟩ := okx e' (List.mem_of_getElem? q) i q2
                obtain ⟨S', hN', hfl, hfew, hin⟩ := okI_scope hk
                refine ⟨i.np, i.fl, ?_, ⟨T, fun f hf => (M.xf j e' q).2.2 f.1 (hfl f hf), hfew⟩, fI, fd, i.N, h1, h2, ?_, hr.mono (by omega), F.bindsN hb⟩
                · show m.xinOf (m.c0 + j) = _
                  unfold Md.xinOf
                  rw [hxc, q, Option.bind_some, q2]
                  rfl
                · obtain ⟨oc, od, dV, kV, doc, pm, an, cdv, ct, osl, rfl, lk, hcd, _, _⟩ := F.ex
                  exact initOk lk hcd S' hN' bx hin
          · have hs : m.xsubOf c' c = some k := hs
            unfold Md.xsubOf at hs
            cases q : m.xcOf c' with
            | none => rw [q] at hs; cases hs
            | some e' =>
              rw [q, Option.bind_some] at hs
              unfold Md.xcOf at q
              by_cases hc' : c' < m.c0
              · rw [if_pos hc'] at q; cases q
              · rw [if_neg hc'] at q
                by_cases hcc : c < m.c0 ∨ m.xs.length ≤ c - m.c0
                · rw [if_pos hcc] at hs; cases hs
                · rw [if_neg hcc] at hs
                  cases hs
                  have e1 : m.c0 + (c' - m.c0) = c' := by omega
                  have e2 : m.c0 + (c - m.c0) = c := by omega
                  have h1 := M.xm (c' - m.c0) (c - m.c0) e' q (by omega)
                  have h2 := M.xf (c' - m.c0) e' q
                  rw [e1, e2] at h1
                  rw [e1] at h2
                  exact ⟨h1.1, h1.2, h2.1, h2.2.1, h2.2.2⟩
          · have := hfs j (of_decide_eq_true hj)
            show ((m.tab[j]?).map (·.fd)).isSome = true
            rw [List.getElem?_eq_getElem this]
            rfl
        refine ⟨_, sSs e.fd.body ox S.kind hb, ω, ds.map some ++ List.replicate e.fd.nl none, hH, rl, env_start M.hot rs (by rw [hN, hl]), ?_⟩
        simp only [callF, hfn, if_pos hl] at h
        show RnS K L _ (evSs m.pg (callF m.pg TURNS lv) TURNS e.fd.body (ds.map some ++ List.replicate e.fd.nl none) ω.S) _ ω
        cases hm : evSs m.pg (callF m.pg TURNS lv) TURNS e.fd.body (ds.map some ++ List.replicate e.fd.nl none) ω.S with
        | nx e1 S1 => rw [hm] at h; exact fun ω' σ' ev r1 q _ => h ω' ev r1 q .non rfl
        | rt d S1 => rw [hm] at h; exact fun ω' v ev r1 q rv => h ω' ev r1 q v rv
        | bk e1 S1 => rw [hm] at h; exact h.elim
        | ct e1 S1 => rw [hm] at h; exact h.elim
        | exc c fs e1 S1 => rw [hm] at h; exact fun ω' σ' ev r1 q _ dx xr => h ω' ev r1 q dx xr
        | stuck => rw [hm] at h; exact h.elim
      · rw [callF_len hfn hl] at h
        exact h.elim
end
end Mi
end
section
set_option Elab.async false
set_option linter.all false
set_option maxRecDepth 100000
set_option maxHeartbeats 4000000
/-! What the head is asked for, and what it tells. -/
namespace Mi
open PySem PySem.Spec PyProof.Rows L2
def seqAt (K : PySem.W.Frag) (a : Addr) (c : String) (k : List Value → Bool) : Bool := match K.lookup a with
  | some ⟨.type t, none, .seq its _, _⟩ => decide (t = c) && (decide (its.size ≤ sizeLine) && k its.toList)
  | _ => false
theorem seqAt_ok {K : PySem.W.Frag} {a : Addr} {c : String} {k : List Value → Bool} (h : seqAt K a c k = true) : ∃ o its n, K.lookup a = some o ∧ o.cls = .type c ∧ o.dict = none ∧ o.data = .seq its n ∧ its.size ≤ sizeLine ∧ k its.toList = true := by
  unfold seqAt at h
  split at h
  · rename_i q
    simp only [Bool.and_eq_true, decide_eq_true_eq] at h
    obtain ⟨rfl, h2, h3⟩ := h
    exact ⟨_, _, _, q, rfl, rfl, rfl, h2, h3⟩
  · cases h
mutual
/-- a module's constant is this -/
def rvB (K : PySem.W.Frag) (ga : Nat → Addr) : D → Value → Bool
  | .non, u => decide (u = .none)
  | .bl b, u => decide (u = .bool b)
  | .int i, u => (match u with
    | .int j _ => decide (i = j)
    | _ => false)
  | .str x, u => (match u with
    | .str y _ => decide (y = toStr x) && (PyData.strOk y && decide (x.length ≤ LIM))
    | _ => false)
  | .ty n, u => decide (u = .type n)
  | .glo g, u => decide (u = .ref (ga g))
  | .tup ds, u => (match u with
    | .ref a => seqAt K a "tuple" fun its => rvBs K ga ds its
    | _ => false)
  | .lck ds, u => (match u with
    | .ref a => seqAt K a "list" fun its => rvBs K ga ds its
    | _ => false)
  | _, _ => false
def rvBs (K : PySem.W.Frag) (ga : Nat → Addr) : List D → List Value → Bool
  | [], us => us.isEmpty
  | d :: ds, us => (match us with
    | [] => false
    | u :: us => rvB K ga d u && rvBs K ga ds us)
end
section
variable {K : PySem.W.Frag} {L : Lnk}
mutual
theorem rvB_ok : ∀ (d : D) {u : Value}, rvB K L.ga d u = true → ∃ v, RelV v u ∧ ∀ ω, RV K L ω d v
  | .non, u, h => ⟨.non, of_decide_eq_true (p := u = .none) h, fun _ => rfl⟩
  | .bl b, u, h => ⟨.bl b, of_decide_eq_true (p := u = .bool b) h, fun _ => rfl⟩
  | .int i, u, h => by
    cases u <;> try (cases h; done)
    rename_i j t
    have : i = j := of_decide_eq_true h
    subst this
    exact ⟨.int i, ⟨t, rfl⟩, fun _ => rfl⟩
  | .str x, u, h => by
    cases u <;> try (cases h; done)
    rename_i y t
    have h : (decide (y = toStr x) && (PyData.strOk y && decide (x.length ≤ LIM))) = true := h
    simp only [Bool.and_eq_true, decide_eq_true_eq] at h
    obtain ⟨rfl, h2, h3⟩ := h
    exact ⟨.str (toStr x), ⟨t, rfl⟩, fun _ => ⟨rfl, h2, h3⟩⟩
  | .ty n, u, h => ⟨.ty n, of_decide_eq_true (p := u = .type n) h, fun _ => rfl⟩
  | .glo g, u, h => ⟨.ref (L.ga g), of_decide_eq_true (p := u = .ref (L.ga g)) h, fun _ => rfl⟩
  | .ref _, _, h => by cases h
  | .xcp _ _, _, h => by cases h
  | .tup ds, u, h => by
    cases u <;> try (cases h; done)
    rename_i a
    obtain ⟨o, its, n, h1, h2, h3, h4, h5, h6⟩ := seqAt_ok (show seqAt K a "tuple" (fun its => rvBs K L.ga ds its) = true from h)
    obtain ⟨vs, r, rs⟩ := rvBs_ok ds h6
    exact ⟨.ref a, rfl, fun ω => ⟨a, vs, rfl, .inr (.inr ⟨o, its, n, h1, h2, h4, h5, r⟩), rs ω⟩⟩
  | .lst _, _, h => by cases h
  | .lck ds, u, h => by
    cases u <;> try (cases h; done)
    rename_i a
    obtain ⟨o, its, n, h1, h2, h3, h4, h5, h6⟩ := seqAt_ok (show seqAt K a "list" (fun its => rvBs K L.ga ds its) = true from h)
    obtain ⟨vs, r, rs⟩ := rvBs_ok ds h6
    exact ⟨.ref a, rfl, fun ω => ⟨a, vs, rfl, .inr (.inr ⟨o, its, n, h1, h2, h3, h4, h5, r⟩), rs ω⟩⟩
  | .dct _, _, h => by cases h
  | .kdc _, _, h => by cases h
theorem rvBs_ok : ∀ (ds : List D) {us : List Value}, rvBs K L.ga ds us = true → ∃ vs, Vals vs us ∧ ∀ ω, RVs K L ω ds vs
  | [], us, h => by
    have h : us.isEmpty = true := h
    cases us with
    | nil => exact ⟨[], .nil, fun _ => rfl⟩
    | cons _ _ => cases h
  | d :: ds, us, h => by
    cases us with
    | nil => cases h
    | cons u us =>
      have h : (rvB K L.ga d u && rvBs K L.ga ds us) = true := h
      rw [Bool.and_eq_true] at h
      obtain ⟨v, r1, q1⟩ := rvB_ok d h.1
      obtain ⟨vs, r2, q2⟩ := rvBs_ok ds h.2
      exact ⟨v :: vs, .cons r1 r2, fun ω => ⟨v, vs, rfl, q1 ω, q2 ω⟩⟩
end
end
/-- a constant of the module -/
def conB (K : PySem.W.Frag) (ga : Nat → Addr) (p : Str × D) : Bool := match p.2 with
  | .kdc kvs => (Fa' K p.1) && kvs.all fun q => match PySem.W.nsIn K (He.ga K p.1) (toStr q.1) with
    | some (some u) => rvB K ga q.2 u
    | _ => false
  | d => (match PySem.W.nsIn K mainGlobals p.1 with
    | some (some u) => rvB K ga d u
    | _ => false)
where Fa' (K : PySem.W.Frag) (x : Str) : Bool := (He.Fa.glo x).ok K
/-- the tables of the module, by their keys -/
def Md.ts (m : Md) : List He.Tab := m.con.filterMap fun p => match p.2 with
  | .kdc kvs => some (fun K => He.ga K p.1, kvs.map fun q => toStr q.1)
  | _ => none
def sysB (K : PySem.W.Frag) : Bool := match K.lookup sysModules with
  | some ⟨.type c, _, _, _⟩ => decide (c = "dict")
  | _ => false
/-- where the def g stands -/
def Md.ga (m : Md) (K : PySem.W.Frag) (g : Nat) : Addr := match m.tab[g]? with
  | some e => He.fAd K e.d.at_
  | none => match m.xcOf g with
    | some e => He.ga K e.nm
    | none => 0
/-- the facts of a class that is raised -/
def oexB (K : PySem.W.Frag) (A : Addr) : Bool := (match K.lookup A with
  | some ⟨.type "type", _, .cls cd, sl⟩ => (match cd.mro, sl.toList with
    | .ref C' :: bm, [_, _, _, _, some (.builtin n), _] => C' == A && (n == "ValueError.__new__" && (!cd.hasDel && (cd.hasDict && PySem.HandSPX.refsVE bm)))
    | _, _ => false)
  | _ => false) && (decide (PySem.W.findIn K (.ref A) "__setattr__" = some (some (.builtin "object.__setattr__"))) && (decide (PySem.W.subIn K (.ref A) (.type "BaseException") = some true) && (decide (PySem.W.typeIn K (.ref A) = some (.type "type")) && PySem.W.keepIn K (.ref A))))
theorem oexB_ok {K : PySem.W.Frag} {A : Addr} (h : oexB K A = true) : OexC K A := by
  simp only [oexB, Bool.and_eq_true, decide_eq_true_eq] at h
  obtain ⟨q, h1, h2, h3, h4⟩ := h
  refine ⟨?_, h1, h2, h3, h4⟩
  split at q
  · rename_i dd cd sl ho
    split at q
    · rename_i C' bm k0 k1 k2 k3 n k5 hm hs
      simp only [Bool.and_eq_true, beq_iff_eq, Bool.not_eq_true'] at q
      obtain ⟨rfl, rfl, hdel, hdict, hv⟩ := q
      obtain ⟨nm, bs, mro, ns, qn, hd, sn, sub, ab, col, del⟩ := cd
      dsimp only at hm hdel hdict
      subst hm hdel hdict
      have hsl : sl = #[k0, k1, k2, k3, some (.builtin "ValueError.__new__"), k5] := by
        obtain ⟨l⟩ := sl
        simp only at hs
        rw [hs]
      subst hsl
      exact ⟨nm, qn, ns, bs, bm, sn, sub, ab, col, dd, k0, k1, k2, k3, k5, ho, hv⟩
    · cases q
  · cases q
def excCB (K : PySem.W.Frag) (D : Addr) : Bool := decide (PySem.W.findIn K (.ref D) "__class__" = some (some (.builtin "object.__class__"))) && (decide (PySem.W.specialIn K (.builtin "object.__class__") "__get__" = some (some (.builtin "getset_descriptor.__get__"))) && (decide (PySem.W.takesIn K (.builtin "object.__class__") = some true) && decide (PySem.W.mroIn K D (.type "object") = some true)))
theorem excCB_ok {K : PySem.W.Frag} {D : Addr} (x : XfC K D) (h : excCB K D = true) : L2.ExcC K D := by
  simp only [excCB, Bool.and_eq_true, decide_eq_true_eq] at h
  exact ⟨x.ga, x.gg, x.exC, x.hdC, h.1, h.2.1, h.2.2.1, h.2.2.2⟩
def baseB (K : PySem.W.Frag) (B : Str) : Bool := (He.Fa.glo B).ok K && (decide (PySem.W.specialIn K (.ref (He.ga K B)) "__getattribute__" = some (some (.builtin "type.__getattribute__"))) && (PySem.W.readsIn K (He.ga K B) (.type "type") && (match PySem.W.findCls K (.ref (He.ga K B)) (.type "type") "__init__" with
  | some (.val v) => decide (v = .builtin "ValueError.__init__")
  | _ => false)))
theorem baseB_ok {K : PySem.W.Frag} {h : Heap} {mg : Str → Option Value} {B : Str} (X : K.In h) (N : h.Ns mainGlobals mg) (q : baseB K B = true) : BaseX K mg B (He.ga K B) := by
  simp only [baseB, Bool.and_eq_true, decide_eq_true_eq] at q
  obtain ⟨h1, h2, h3, h4⟩ := q
  refine ⟨He.glo_ok X N h1, h2, h3, ?_⟩
  split at h4
  · rename_i v hv
    rw [of_decide_eq_true h4] at hv
    exact hv
  · cases h4
def Md.inis (m : Md) : List XcI := m.xs.filterMap (·.ini)
def Md.xOk (m : Md) (K : PySem.W.Frag) (e : XcE) : Bool := (He.Fa.glo e.nm).ok K && (xfB K (He.ga K e.nm) && (excCB K (He.ga K e.nm) && ((m.flds.all fun f => decide (PySem.W.findIn K (.ref (He.ga K e.nm)) (toStr f) = some none)) &&
  ((m.xs.zipIdx.all fun q => decide (PySem.W.exmOne K (.ref (He.ga K e.nm)) (.ref (He.ga K q.1.nm)) = some (decide (q.2 ∈ e.sup))) && decide (PySem.W.kitOne K (.ref (He.ga K e.nm)) (.ref (He.ga K q.1.nm)) = some (decide (q.2 ∈ e.sup)))) &&
  (match e.ini with
    | none => true
    | some i => oexB K (He.ga K e.nm) && (decide (i.d.at_ = (e.nm, some ("__init__" : Str))) && (decide (PySem.W.findIn K (.ref (He.ga K e.nm)) "__init__" = some (some (.ref (He.fAd K i.d.at_)))) && (decide (PySem.W.typeIn K (.ref (He.fAd K i.d.at_)) = some (.type "function")) && (i.d.ok K && baseB K i.base)))))))))
def Md.facts (m : Md) (K : PySem.W.Frag) : Bool := (m.xs.all fun e => m.xOk K e) && ((bNames.all fun x => (He.Fa.free x).ok K) && ((m.tab.all fun e => match e.d.at_.2 with
    | none => (He.Fa.glo e.d.at_.1).ok K
    | some _ => true) && ((m.con.all fun p => conB K (m.ga K) p) && sysB K)))
abbrev AlM : Type := Bool × List He.FnW × List (Option (List (Option (Str × Int))))
def Md.obs (m : Md) (K : PySem.W.Frag) : AlM := (m.facts K && m.tab.all fun e => e.d.ok K, (m.tab.map fun e => He.fnW K e.d.at_) ++ m.inis.map fun i => He.fnW K i.d.at_, m.ts.map fun t => He.dicW K (t.1 K))
def Md.val (m : Md) (w : World) : AlM := (true, (m.tab.map fun e => e.d.val) ++ m.inis.map fun i => i.d.val, m.ts.map fun t => some (He.keysIn w.params t.2))
def Md.obsG (m : Md) (n : Nat) (g : Addr → Option Obj) : AlM := m.obs (He.frG g (He.asD g n ++ [sysModules, cStatics]))
def Md.hook (m : Md) (n : Nat) : PySem.W.Hook where
  α := AlM
  obs := fun s => m.obsG n s.heap.get?
  val := fun w => m.val w
  says := fun w h => ∃ K : PySem.W.Frag, K.In h ∧ m.obs K = m.val w
  of := fun _ _ e => ⟨_, He.frG_in, e⟩
  keeps := fun _ _ _ ⟨K, hK, c⟩ k => ⟨K, PySem.W.Frag.In.keeps hK k, c⟩
theorem Md.obsG_eq {m : Md} {n : Nat} {g : Addr → Option Obj} {s : Shared} (h : ∀ a, g a = s.heap.get? a) : m.obsG n g = (m.hook n).obs s := by
  have e : g = s.heap.get? := funext h
  rw [e] <;> rfl
theorem map_at {α β : Type} {f g : α → β} : ∀ {l : List α}, l.map f = l.map g → ∀ x ∈ l, f x = g x
  | [], _, _, h => by cases h
  | a :: l, e, x, h => by
    rw [List.map_cons, List.map_cons] at e
    injection e with e1 e2
    rcases List.mem_cons.mp h with rfl | h
    · exact e1
    · exact map_at e2 x h
/-- a table's names that it has not -/
theorem kd_miss {K : PySem.W.Frag} {w : World} {a : Addr} {kvs : List (Sg × D)} (h : He.dicW K a = some (He.keysIn w.params (kvs.map fun q => toStr q.1))) {z : Sg} (hz : kvs.lookup z = none) : PySem.W.nsIn K a (toStr z) = some none := by
  obtain ⟨es, n, D⟩ := He.dicW_ok h
  have hk : es.toList.map He.keyOf = He.keysIn w.params (kvs.map fun q => toStr q.1) := by
    unfold He.dicW at h
    rw [D.at_] at h
    dsimp only at h
    split at h
    · exact Option.some.inj h
    · cases h
  unfold PySem.W.nsIn
  rw [D.at_]
  dsimp only
  have keys : ∀ e ∈ es.toList, ∃ q ∈ kvs, ∃ t, e.key = .str (toStr q.1) t := fun e he => by
    have hm : He.keyOf e ∈ He.keysIn w.params (kvs.map fun q => toStr q.1) := by rw [← hk]; exact List.mem_map_of_mem he
    unfold He.keysIn at hm
    obtain ⟨x, hx, hx2⟩ := List.mem_map.mp hm
    obtain ⟨q, hq, rfl⟩ := List.mem_map.mp hx
    unfold He.keyOf at hx2
    split at hx2
    · rename_i y t q2
      have h3 := (Prod.mk.inj (Option.some.inj hx2)).1
      exact ⟨q, hq, t, by rw [q2, h3]⟩
    · cases hx2
  have none_ : es.toList.find? (·.key.isStr (toStr z)) = none := by
    rw [List.find?_eq_none]
    intro e he
    obtain ⟨q, hq, t, ek⟩ := keys e he
    rw [ek]
    intro hs
    have hs : (toStr q.1 == toStr z) = true := hs
    have e1 := toStr_inj (eq_of_beq hs)
    have : ∃ d, kvs.lookup z = some d := by
      clear h hk keys hz
      induction kvs with
      | nil => cases hq
      | cons p r ih =>
        rw [List.lookup_cons]
        cases hb : z == p.1 with
        | true => exact ⟨_, rfl⟩
        | false =>
          rcases List.mem_cons.mp hq with rfl | hq
          · rw [e1] at hb; simp at hb
          · exact ih hq
    obtain ⟨d, hd⟩ := this
    rw [hz] at hd
    cases hd
  rw [none_]
  dsimp only
  have noref : es.toList.any (·.refKey) = false := by
    rw [List.any_eq_false]
    intro e he
    obtain ⟨q, hq, t, ek⟩ := keys e he
    unfold DictEntry.refKey
    rw [ek]
    simp
  rw [noref]
  rfl
/-- what the head tells -/
theorem says_ok {m : Md} {K : PySem.W.Frag} {w : World} {h : Heap} {mg : Str → Option Value} (X : K.In h) (N : h.Ns mainGlobals mg) (c : m.obs K = m.val w) (hd : ∀ e ∈ m.tab, e.d.dfl = [] ∧ e.d.kwd = []) (hdx : ∀ i ∈ m.inis, i.d.dfl = [] ∧ i.d.kwd = []) (nm : Nat → Str) : MgOk m ⟨m.ga K, nm, w, none⟩ K mg := by
  have c1 : (m.facts K && m.tab.all fun e => e.d.ok K) = true := congrArg (fun z : AlM => z.1) c
  have c20 : (m.tab.map fun e => He.fnW K e.d.at_) ++ (m.inis.map fun i => He.fnW K i.d.at_) = (m.tab.map fun e => e.d.val) ++ m.inis.map fun i => i.d.val := congrArg (fun z : AlM => z.2.1) c
  obtain ⟨c2, c2x⟩ := List.append_inj c20 (by simp)
  have c3 : (m.ts.map fun t => He.dicW K (t.1 K)) = m.ts.map fun t => some (He.keysIn w.params t.2) := congrArg (fun z : AlM => z.2.2) c
  simp only [Md.facts, Bool.and_eq_true, List.all_eq_true] at c1
  obtain ⟨⟨f0, f1, f2, f3, f4⟩, f5⟩ := c1
  have gaE : ∀ {k : Nat} {e : DefE}, m.tab[k]? = some e → m.ga K k = He.fAd K e.d.at_ := fun {k e} he => by unfold Md.ga; rw [he]
  have gaX : ∀ {j : Nat} {e : XcE}, m.xs[j]? = some e → m.ga K (m.c0 + j) = He.ga K e.nm := fun {j e} he => by
    unfold Md.ga
    have h1 : m.c0 = m.tab.length + m.con.length := rfl
    rw [List.getElem?_eq_none (by omega)]
    unfold Md.xcOf
    rw [if_neg (by omega), Nat.add_sub_cancel_left, he]
  have xo : ∀ {j : Nat} {e : XcE}, m.xs[j]? = some e → m.xOk K e = true := fun {j e} he => f0 e (List.mem_of_getElem? he)
  refine ⟨rfl, fun x hx => He.free_ok X N (f1 x hx), fun k e he => ?_, fun k e x he hat => ?_, fun j x d hc => ?_, ?_, fun j e he => ?_, fun j k e he hk => ?_, fun j e he => ?_, fun j e i he hi => ?_⟩
  · have hm := List.mem_of_getElem? he
    obtain ⟨fd, F⟩ := He.DefD.funD (map_at c2 e hm) (f5 e hm)
    obtain ⟨d1, d2⟩ := hd e hm
    unfold He.DefD.dvs He.DefD.kws at F
    rw [d1, d2] at F
    exact ⟨fd, by show FunD K _ _ _ _ _ [] [] (m.ga K k) fd; rw [gaE he]; exact F⟩
  · have := f2 e (List.mem_of_getElem? he)
    rw [hat] at this
    show mg x = some (.ref (m.ga K k))
    rw [gaE he, hat]
    exact He.glo_ok X N this
  · have hm := List.mem_of_getElem? hc
    have hb := f3 (x, d) hm
    have plain : ∀ {d : D}, (match PySem.W.nsIn K mainGlobals x with
        | some (some u) => rvB K (m.ga K) d u
        | _ => false) = true → ∃ u v, mg x = some u ∧ RelV v u ∧ ∀ ω, RV K ⟨m.ga K, nm, w, none⟩ ω d v := fun {d} hb => by
      cases q : PySem.W.nsIn K mainGlobals x with
      | none => rw [q] at hb; cases hb
      | some o =>
        cases o with
        | none => rw [q] at hb; cases hb
        | some u =>
          rw [q] at hb
          obtain ⟨v, r, rv⟩ := rvB_ok (L := ⟨m.ga K, nm, w, none⟩) d hb
          exact ⟨u, v, PySem.W.mg_of X N q, r, rv⟩
    unfold conB at hb
    dsimp only at hb
    split at hb
    · rename_i kvs
      rw [Bool.and_eq_true] at hb
      obtain ⟨g1, g2⟩ := hb
      have hg := He.glo_ok X N (x := x) g1
      have ht : ((fun K => He.ga K x), kvs.map fun q => toStr q.1) ∈ m.ts := List.mem_filterMap.mpr ⟨(x, .kdc kvs), hm, rfl⟩
      have hdw : He.dicW K (He.ga K x) = some (He.keysIn w.params (kvs.map fun q => toStr q.1)) := map_at c3 _ ht
      obtain ⟨es, n, D⟩ := He.dicW_ok hdw
      refine ⟨_, .ref (He.ga K x), hg, rfl, fun ω => ⟨_, es, n, rfl, D, ?_, fun z hz => kd_miss hdw hz⟩⟩
      have all := List.all_eq_true.mp g2
      clear ht hdw g1 g2 hm hc
      induction kvs with
      | nil => trivial
      | cons p r ih =>
        refine ⟨?_, ih fun q hq => all q (List.mem_cons_of_mem _ hq)⟩
        have hp := all p List.mem_cons_self
        cases q : PySem.W.nsIn K (He.ga K x) (toStr p.1) with
        | none => rw [q] at hp; cases hp
        | some o =>
          cases o with
          | none => rw [q] at hp; cases hp
          | some u =>
            rw [q] at hp
            obtain ⟨v, r1, rv⟩ := rvB_ok (L := ⟨m.ga K, nm, w, none⟩) p.2 hp
            exact ⟨u, v, rfl, r1, rv ω⟩
    · exact plain hb
  · unfold sysB at f4
    split at f4
    · rename_i q
      have := of_decide_eq_true f4
      subst this
      exact ⟨_, q, rfl⟩
    · cases f4
  · have h := xo he
    simp only [Md.xOk, Bool.and_eq_true] at h
    show mg e.nm = some (.ref (m.ga K (m.c0 + j)))
    rw [gaX he]
    exact He.glo_ok X N h.1
  · have h := xo he
    simp only [Md.xOk, Bool.and_eq_true, List.all_eq_true, decide_eq_true_eq] at h
    have hm : (m.xs[k], k) ∈ m.xs.zipIdx := List.mem_zipIdx_iff_getElem?.mpr (by rw [List.getElem?_eq_getElem hk])
    have h2 := h.2.2.2.2.1 _ hm
    show PySem.W.exmOne K (.ref (m.ga K (m.c0 + j))) (.ref (m.ga K (m.c0 + k))) = _ ∧ PySem.W.kitOne K (.ref (m.ga K (m.c0 + j))) (.ref (m.ga K (m.c0 + k))) = _
    rw [gaX he, gaX (List.getElem?_eq_getElem hk)]
    exact h2
  · have h := xo he
    simp only [Md.xOk, Bool.and_eq_true, List.all_eq_true, decide_eq_true_eq] at h
    show XfC K (m.ga K (m.c0 + j)) ∧ L2.ExcC K (m.ga K (m.c0 + j)) ∧ ∀ f ∈ m.flds, PySem.W.findIn K (.ref (m.ga K (m.c0 + j))) (toStr f) = some none
    rw [gaX he]
    exact ⟨xfB_ok h.2.1, excCB_ok (xfB_ok h.2.1) h.2.2.1, h.2.2.2.1⟩
  · have h := xo he
    simp only [Md.xOk, Bool.and_eq_true, List.all_eq_true, decide_eq_true_eq, hi] at h
    obtain ⟨h1, h2, h3, h4, h5, h6⟩ := h.2.2.2.2.2
    have him : i ∈ m.inis := List.mem_filterMap.mpr ⟨e, List.mem_of_getElem? he, hi⟩
    obtain ⟨fd, F⟩ := He.DefD.funD (map_at c2x i him) h5
    obtain ⟨d1, d2⟩ := hdx i him
    unfold He.DefD.dvs He.DefD.kws at F
    rw [d1, d2] at F
    show OexC K (m.ga K (m.c0 + j)) ∧ ∃ fI fd CB, PySem.W.findIn K (.ref (m.ga K (m.c0 + j))) "__init__" = some (some (.ref fI)) ∧ _
    rw [gaX he]
    exact ⟨oexB_ok h1, _, fd, _, h3, h4, F, baseB_ok X N h6⟩
/-- a text's signs -/
def sg (s : String) : Sg := s.toList.map Char.toNat
end Mi
end
section
set_option Elab.async false
set_option linter.all false
set_option maxRecDepth 100000
set_option maxHeartbeats 4000000
/-! From the plain law to the law's promise. -/
namespace Mi
open PySem PySem.Spec PyProof.Rows L2
theorem ints_RV {K : PySem.W.Frag} {L : Lnk} {ω : Wd} : ∀ ns : List Int, RVs K L ω (ns.map D.int) (ns.map V.int)
  | [] => rfl
  | _ :: ns => ⟨_, _, rfl, rfl, ints_RV ns⟩
theorem Rel.none_ {K : PySem.W.Frag} {L : Lnk} (H : Hp) : Rel K L ⟨[], fun _ => 0, H, fun _ => False⟩ where
  live := fun n o h => by cases h
  inj := fun n m o u h => by cases h
  priv := fun n o h => by cases h
  held := fun a h => h.elim
theorem endI {P : Program} {m : Md} {fs : List Nat} {K : PySem.W.Frag} {w : World} {mg : Str → Option Value} {fa : Addr} {h : Heap} {N LV g : Nat} {e : DefE} {x : Str} (ok : ∀ e ∈ m.tab, m.okD m.gl fs e = true ∧ BindOk e) (hfs : ∀ k ∈ fs, k < m.tab.length) (hd : ∀ e ∈ m.tab, e.d.dfl = [] ∧ e.d.kwd = []) (okx : ∀ e ∈ m.xs, ∀ i, e.ini = some i → m.okI i = true ∧ BindOkI i) (hdx : ∀ i ∈ m.inis, i.d.dfl = [] ∧ i.d.kwd = [])
    (KX : K.In h) (G : h.Ns mainGlobals mg) (c : m.obs K = m.val w) (he : m.tab[g]? = some e) (hat : e.d.at_ = (("law" : Str), none)) (hps : e.ps = [x]) (hmg : mg ("law" : Str) = some (.ref fa))
    (pl : ∀ ns : List Int, ns.length ≤ N → ∃ S, callF m.pg TURNS LV g [.lck (ns.map D.int)] [] = .ok (.bl true) S) :
    ∃ (K : PySem.W.Frag) (fd : FuncData) (sp : Sp), K.In h ∧ (∀ (s : Shared) (u : Value), BindsTo s fd ⟨[u], []⟩ [(x, u)]) ∧
        (∀ (H : Hp) (a : Addr) (ns : List Int), ns.length ≤ N → Only H → ((∃ o, H a = some (.frz o (.lst (ns.map V.int)))) ∨ SqL K noH a (ns.map V.int)) → sp [.ref a] H (fun v _ => v = .bl true) fun _ _ _ => False) ∧
        ∀ base : Heap, K.In base → base.Ns mainGlobals mg → FnG P w K mg base (LV + 2) fa fd [x] sp := by
  have M := says_ok (w := w) KX G c hd hdx (fun _ => "")
  obtain ⟨fd, kp, bd, ba, hF⟩ := fnTab (P := P) okx ok hfs M LV g e he
  have z := M.glo g e ("law" : Str) he hat
  rw [hmg] at z
  cases z
  rw [hps] at ba hF
  refine ⟨K, fd, _, KX, fun s u => ba s [u] rfl, fun H a ns hl _ hS => ?_, fun base _ _ => hF base⟩
  refine ⟨⟨[], fun _ => 0, H, fun _ => False⟩, [.lck (ns.map D.int)], rfl, Rel.none_ H, ⟨_, _, rfl, ⟨a, _, rfl, hS, ints_RV ns⟩, rfl⟩, ?_⟩
  obtain ⟨S, hS⟩ := pl ns hl
  show Rn K _ (callF m.pg TURNS LV g [.lck (ns.map D.int)] []) _ _ _
  rw [hS]
  exact fun ω' _ _ _ v rv => rv
end Mi
end
section
set_option Elab.async false
set_option linter.all false
/-! Plain: what a run of the interpreter ends with. -/
namespace Mi
def Wp {α : Type} (m : Re α) (Q : α → Mi.St → Prop) : Prop := match m with
  | .ok a S => Q a S
  | _ => False
def WpS (z : RS) (N : Env → Mi.St → Prop) (R : D → Mi.St → Prop) : Prop := match z with
  | .nx e S => N e S
  | .rt d S => R d S
  | _ => False
section
variable {α β : Type} {m : Re α} {f : α → Mi.St → Re β} {Q : α → Mi.St → Prop} {Q' : β → Mi.St → Prop} {N N' : Env → Mi.St → Prop} {R R' : D → Mi.St → Prop} {a : α} {S : Mi.St} {e : Env}
theorem Wp.ok_ : Wp (.ok a S) Q = Q a S := (rfl)
theorem Wp.bnd_ : Wp (m.bnd f) Q' = Wp m (fun a S => Wp (f a S) Q') := by cases m <;> rfl
theorem Wp.nox_ : Wp m.nox Q = Wp m Q := by cases m <;> rfl
theorem Wp.some_ : Wp (lift (some a) S) Q = Q a S := (rfl)
theorem Wp.lift_ {o : Option α} : Wp (lift o S) Q = (∃ a, o = some a ∧ Q a S) := by
  cases o with
  | none => simp [lift, Wp]
  | some a => simp [lift, Wp]
theorem Wp.ite_ {c : Prop} [Decidable c] {m1 m2 : Re α} : Wp (if c then m1 else m2) Q = (if c then Wp m1 Q else Wp m2 Q) := by split <;> rfl
theorem Wp.mono {Q2 : α → Mi.St → Prop} (h : Wp m Q) (k : ∀ a S, Q a S → Q2 a S) : Wp m Q2 := by
  cases m with
  | ok a S => exact k a S h
  | exc c fs S => exact h
  | stuck => exact h
theorem Wp.elim (h : Wp m Q) : ∃ a S, m = .ok a S ∧ Q a S := by
  cases m with
  | ok a S => exact ⟨a, S, rfl, h⟩
  | exc c fs S => exact h.elim
  | stuck => exact h.elim
theorem WpS.toS_ {g : α → Mi.St → RS} : WpS (m.toS e g) N R = Wp m (fun a S => WpS (g a S) N R) := by cases m <;> rfl
theorem WpS.rt_ {d : D} : WpS (.rt d S) N R = R d S := (rfl)
theorem WpS.nx_ : WpS (.nx e S) N R = N e S := (rfl)
theorem WpS.ite_ {c : Prop} [Decidable c] {m1 m2 : RS} : WpS (if c then m1 else m2) N R = (if c then WpS m1 N R else WpS m2 N R) := by split <;> rfl
theorem WpS.mono {z : RS} (h : WpS z N R) (k : ∀ e S, N e S → N' e S) (k2 : ∀ d S, R d S → R' d S) : WpS z N' R' := by
  cases z with
  | nx e S => exact k e S h
  | rt d S => exact k2 d S h
  | bk e S => exact h
  | ct e S => exact h
  | exc c fs e S => exact h
  | stuck => exact h
end
end Mi
namespace Mi
section
variable {P : Pg} {F : Fns} {W : Nat} {N : Env → Mi.St → Prop} {R : D → Mi.St → Prop} {e : Env} {S : Mi.St}
theorem WpS.nil_ : WpS (evSs P F W [] e S) N R = N e S := by simp [evSs, WpS]
theorem WpS.cons_ {s : CS} {r : List CS} : WpS (evSs P F W (s :: r) e S) N R = WpS (evS P F W s e S) (fun e1 S1 => WpS (evSs P F W r e1 S1) N R) R := by
  simp only [evSs]
  cases evS P F W s e S <;> rfl
theorem WpS.cut {s : CS} {r : List CS} {M : Env → Mi.St → Prop} (h : WpS (evS P F W s e S) M R) (k : ∀ e1 S1, M e1 S1 → WpS (evSs P F W r e1 S1) N R) : WpS (evSs P F W (s :: r) e S) N R := by
  rw [WpS.cons_]
  exact WpS.mono h k fun _ _ h => h
theorem Wp.call_ {lv g : Nat} {d : FnD} {vs : List D} {Q : D → Mi.St → Prop} (h : P.fn g = some d) (hl : vs.length = d.ps) (k : WpS (evSs P (callF P W lv) W d.body (vs.map some ++ List.replicate d.nl none) S) (fun _ S1 => Q .non S1) Q) : Wp (callF P W (lv + 1) g vs S) Q := by
  simp only [callF, h, if_pos hl]
  cases q : evSs P (callF P W lv) W d.body (vs.map some ++ List.replicate d.nl none) S with
  | nx e S => rw [q] at k; exact k
  | rt d S => rw [q] at k; exact k
  | bk e S => rw [q] at k; exact k
  | ct e S => rw [q] at k; exact k
  | exc c fs e S => rw [q] at k; exact k
  | stuck => rw [q] at k; exact k
end
/-! ### walks over known items -/
def foldC (f : D → M (Option D)) : List D → List D → M (List D)
  | [], acc, S => .ok acc S
  | x :: r, acc, S => (f x S).bnd fun o S1 => foldC f r (match o with
    | some y => acc ++ [y]
    | none => acc) S1
theorem turnsC_fix {f : D → M (Option D)} {ds : List D} : ∀ (n i : Nat) (acc : List D) (S : Mi.St), i ≤ ds.length → ds.length < n + i → turnsC f (itFix ds) n i acc S = foldC f (ds.drop i) acc S
  | 0, i, acc, S, h1, h2 => by omega
  | n + 1, i, acc, S, h1, h2 => by
    simp only [turnsC, itFix, if_pos h1]
    by_cases h : i < ds.length
    · rw [List.getElem?_eq_getElem h, List.drop_eq_getElem_cons h]
      simp only [foldC]
      congr 1
      funext o S1
      exact turnsC_fix n (i + 1) _ S1 h (by omega)
    · have e : i = ds.length := by omega
      subst e
      simp [foldC]
theorem Wp.foldC_ {f : D → M (Option D)} (I : List D → List D → Mi.St → Prop) (hs : ∀ x r acc S, I (x :: r) acc S → Wp (f x S) (fun o S' => I r (match o with
    | some y => acc ++ [y]
    | none => acc) S')) : ∀ (ds acc : List D) (S : Mi.St), I ds acc S → Wp (foldC f ds acc S) (fun r S' => I [] r S')
  | [], acc, S, h => h
  | x :: r, acc, S, h => by
    simp only [foldC, Wp.bnd_]
    exact Wp.mono (hs x r acc S h) fun o S' h' => Wp.foldC_ I hs r _ S' h'
theorem Wp.turnsC_ {f : D → M (Option D)} (I : List D → List D → Mi.St → Prop) {ds : List D} {S : Mi.St} {Q : List D → Mi.St → Prop} (hl : ds.length < TURNS) (h0 : I ds [] S) (hs : ∀ x r acc S, I (x :: r) acc S → Wp (f x S) (fun o S' => I r (match o with
    | some y => acc ++ [y]
    | none => acc) S')) (hq : ∀ r S', I [] r S' → Q r S') : Wp (turnsC f (itFix ds) TURNS 0 [] S) Q := by
  rw [turnsC_fix TURNS 0 [] S (Nat.zero_le _) hl, List.drop_zero]
  exact Wp.mono (Wp.foldC_ I hs ds [] S h0) hq
def foldF (f : D → Env → Mi.St → RS) : List D → Env → Mi.St → RS
  | [], e, S => .nx e S
  | x :: r, e, S => match f x e S with
    | .nx e1 S1 => foldF f r e1 S1
    | .ct e1 S1 => foldF f r e1 S1
    | .bk e1 S1 => .nx e1 S1
    | s => s
theorem turnsF_fix {f : D → Env → Mi.St → RS} {ds : List D} : ∀ (n i : Nat) (e : Env) (S : Mi.St), i ≤ ds.length → ds.length < n + i → turnsF f (itFix ds) n i e S = foldF f (ds.drop i) e S
  | 0, i, acc, S, h1, h2 => by omega
  | n + 1, i, e, S, h1, h2 => by
    simp only [turnsF, itFix, if_pos h1]
    by_cases h : i < ds.length
    · rw [List.getElem?_eq_getElem h, List.drop_eq_getElem_cons h]
      simp only [foldF]
      cases f ds[i] e S with
      | nx e1 S1 => exact turnsF_fix n (i + 1) _ S1 h (by omega)
      | ct e1 S1 => exact turnsF_fix n (i + 1) _ S1 h (by omega)
      | rt d S => rfl
      | bk e S => rfl
      | exc c fs e S => rfl
      | stuck => rfl
    · have e : i = ds.length := by omega
      subst e
      simp [foldF]
theorem WpS.foldF_ {f : D → Env → Mi.St → RS} {R : D → Mi.St → Prop} (I : List D → Env → Mi.St → Prop) (hs : ∀ x r e S, I (x :: r) e S → WpS (f x e S) (fun e' S' => I r e' S') R) : ∀ (ds : List D) (e : Env) (S : Mi.St), I ds e S → WpS (foldF f ds e S) (fun e' S' => I [] e' S') R
  | [], e, S, h => h
  | x :: r, e, S, h => by
    simp only [foldF]
    have k := hs x r e S h
    revert k
    cases f x e S with
    | nx e1 S1 => exact fun k => WpS.foldF_ I hs r e1 S1 k
    | rt d S => exact fun k => k
    | ct e1 S1 => exact fun k => k.elim
    | bk e S => exact fun k => k.elim
    | exc c fs e S => exact fun k => k
    | stuck => exact fun k => k
theorem WpS.turnsF_ {f : D → Env → Mi.St → RS} (I : List D → Env → Mi.St → Prop) {ds : List D} {e : Env} {S : Mi.St} {N : Env → Mi.St → Prop} {R : D → Mi.St → Prop} (hl : ds.length < TURNS) (h0 : I ds e S) (hs : ∀ x r e S, I (x :: r) e S → WpS (f x e S) (fun e' S' => I r e' S') R) (hq : ∀ e S', I [] e S' → N e S') : WpS (turnsF f (itFix ds) TURNS 0 e S) N R := by
  rw [turnsF_fix TURNS 0 e S (Nat.zero_le _) hl, List.drop_zero]
  exact WpS.mono (WpS.foldF_ I hs ds e S h0) hq fun _ _ h => h
theorem WpS.turnsW_ {c : Env → M Bool} {f : Env → Mi.St → RS} {N : Env → Mi.St → Prop} {R : D → Mi.St → Prop} (I : Nat → Env → Mi.St → Prop)
    (hs : ∀ m e S, I m e S → Wp (c e S) (fun b S1 => if b then WpS (f e S1) (fun e' S' => ∃ k, k < m ∧ I k e' S') R else N e S1)) : ∀ (n m : Nat) (e : Env) (S : Mi.St), m < n → I m e S → WpS (turnsW c f n e S) N R
  | 0, m, e, S, h, _ => by omega
  | n + 1, m, e, S, h, hi => by
    simp only [turnsW, WpS.toS_]
    refine Wp.mono (hs m e S hi) fun b S1 h1 => ?_
    cases b with
    | false => exact h1
    | true =>
      simp only [if_true] at h1 ⊢
      revert h1
      cases f e S1 with
      | nx e1 S1 => exact fun ⟨k, hk, hi⟩ => WpS.turnsW_ I hs n k e1 S1 (by omega) hi
      | rt d S => exact fun k => k
      | ct e1 S1 => exact fun k => k.elim
      | bk e S => exact fun k => k.elim
      | exc c fs e S => exact fun k => k
      | stuck => exact fun k => k
theorem enuD_length (ds : List D) : (enuD ds).length = ds.length := by simp [enuD]
theorem itEnu_fix (ds : List D) : itEnu (itFix ds) = itFix (enuD ds) := by
  funext S i
  simp only [itEnu, itFix, enuD_length]
  by_cases h : i ≤ ds.length
  · simp only [if_pos h]
    by_cases h2 : i < ds.length
    · simp [List.getElem?_eq_getElem, h2, enuD]
    · rw [List.getElem?_eq_none (by omega), List.getElem?_eq_none (by rw [enuD_length]; omega)]
  · simp only [if_neg h]
theorem itZip_fix (xs ys : List D) : itZip (itFix xs) (itFix ys) = itFix (zipD xs ys) := by
  funext S i
  simp only [itZip, itFix, zipD, List.length_zipWith]
  by_cases h : i ≤ xs.length <;> by_cases h' : i ≤ ys.length
  · rw [if_pos h, if_pos h', if_pos (by omega)]
    rw [List.getElem?_zipWith]
    cases xs[i]? <;> cases ys[i]? <;> rfl
  · rw [if_pos h, if_neg h', if_neg (by omega)]; cases xs[i]? <;> rfl
  · rw [if_neg h, if_pos h', if_neg (by omega)]
  · rw [if_neg h, if_neg h', if_neg (by omega)]

/-! ### operators on plain data -/
section
variable {S : Mi.St}
theorem sub_ref {n : Nat} {ds : List D} {i : Int} (h : S[n]? = some (some (.lst ds))) : subOp S (.ref n) (.int i) = atIx ds i := by simp [subOp, h]
theorem set_ref {n : Nat} {ds : List D} {i : Int} {v : D} (h : S[n]? = some (some (.lst ds))) : setItem S (.ref n) (.int i) v = (ixOf ds.length i).map fun k => S.set n (some (.lst (ds.set k v))) := by simp [setItem, h]
theorem sub_lst {ds : List D} {i : Int} : subOp S (.lst ds) (.int i) = atIx ds i := (rfl)
theorem sub_tup {ds : List D} {i : Int} : subOp S (.tup ds) (.int i) = atIx ds i := (rfl)
theorem atIx_nat {α : Type} {ds : List α} {i : Nat} : atIx ds (i : Int) = ds[i]? := by
  simp only [atIx, ixOf]
  by_cases h : i < ds.length
  · rw [if_pos (by omega), if_pos (by omega)]; simp
  · rw [if_pos (by omega), if_neg (by omega), List.getElem?_eq_none (by omega)]; rfl
theorem atIx_in {α : Type} {ds : List α} {i : Int} (h0 : 0 ≤ i) (h1 : i < ds.length) : ∃ x, atIx ds i = some x ∧ x ∈ ds := by
  obtain ⟨k, rfl⟩ := Int.eq_ofNat_of_zero_le h0
  rw [atIx_nat]
  have h : k < ds.length := by omega
  exact ⟨_, List.getElem?_eq_getElem h, List.getElem_mem h⟩
theorem eq_nil {ds : List D} : eqOp S (.lst ds) (.lst []) = some ds.isEmpty := by
  cases ds with
  | nil => rfl
  | cons x r =>
    simp only [eqOp, vw, asL, empD]
    split
    · rfl
    · rfl
theorem eq_int {i j : Int} : eqOp S (.int i) (.int j) = some (i == j) := (rfl)
theorem eq_str {i j : Sg} : eqOp S (.str i) (.str j) = some (i == j) := (rfl)
theorem asM_lst {ds : List D} : asM S (.lst ds) = some ds := (rfl)
theorem add_lst {x y : List D} (h : x.length + y.length ≤ LIM) : addOp S (.lst x) (.lst y) = some (.lst (x ++ y)) := by simp [addOp, asM, h]
theorem add_tup {x y : List D} (h : x.length + y.length ≤ LIM) : addOp S (.tup x) (.tup y) = some (.tup (x ++ y)) := by simp [addOp, h]
theorem add_int {i j : Int} : addOp S (.int i) (.int j) = some (.int (i + j)) := (rfl)
theorem mul_lst {x : List D} {n : Int} (h : 0 ≤ n) (h2 : n < 1000000) (h3 : x.length * n.toNat ≤ LIM) : mulOp S (.lst x) (.int n) = some (.lst (List.replicate n.toNat x).flatten) := by
  simp only [mulOp, asM, Option.bind_some]
  rw [if_pos ⟨h, by show n < 18446744073709551616 / 2; omega, h3⟩]
theorem rng_one {n : Int} (h : n ≤ 1000000000) (h0 : 0 ≤ n) : rngD [.int n] = some ((List.range n.toNat).map fun (i : Nat) => .int (i : Int)) := by
  simp only [rngD]
  rw [if_pos (by omega)]
theorem slc_lst {x : List D} {lo hi : Option Int} : slcOp S (.lst x) lo hi = some (.lst (cut x lo hi)) := (rfl)
theorem slc_tup {x : List D} {lo hi : Option Int} : slcOp S (.tup x) lo hi = some (.tup (cut x lo hi)) := (rfl)
theorem cut_to {α : Type} {x : List α} {n : Nat} : cut x none (some (n : Int)) = x.take n := by
  have e : (n : Int).toNat = n := (rfl)
  simp only [cut, sIx, List.drop_zero, Nat.sub_zero, if_neg (show ¬ (n : Int) < 0 by omega), e]
  rcases Nat.lt_or_ge n x.length with h | h
  · rw [Nat.min_eq_left (by omega)]
  · rw [Nat.min_eq_right h, List.take_of_length_le h, List.take_of_length_le (Nat.le_refl _)]
theorem cut_from {α : Type} {x : List α} {n : Nat} : cut x (some (n : Int)) none = x.drop n := by
  have e : (n : Int).toNat = n := (rfl)
  simp only [cut, sIx, if_neg (show ¬ (n : Int) < 0 by omega), e]
  rcases Nat.lt_or_ge n x.length with h | h
  · rw [Nat.min_eq_left (by omega), List.take_of_length_le (by simp)]
  · rw [Nat.min_eq_right h, List.drop_eq_nil_of_le (Nat.le_refl _), List.drop_eq_nil_of_le h]; simp
end
end Mi
end
section
set_option Elab.async false
set_option linter.all false
/-! A class of data: nothing live, of bounded depth and size. -/
namespace Mi
open PySem
mutual
def wfD : Nat → D → Bool
  | _, .non => true
  | _, .bl _ => true
  | _, .int i => decide (i.natAbs < 10 ^ 32)
  | _, .str x => decide (x.length ≤ 12) && x.all fun c => decide (c < 65536)
  | n, .tup ds => decide (0 < n) && wfDs (n - 1) ds
  | n, .lst ds => decide (0 < n) && wfDs (n - 1) ds
  | n, .dct kvs => decide (0 < n) && kvs.isEmpty
  | _, _ => false
def wfDs : Nat → List D → Bool
  | _, [] => true
  | n, d :: ds => wfD n d && wfDs n ds
end
theorem wf_tup {n : Nat} {ds : List D} : wfD (n + 1) (.tup ds) = wfDs n ds := by simp [wfD]
theorem wf_lst {n : Nat} {ds : List D} : wfD (n + 1) (.lst ds) = wfDs n ds := by simp [wfD]
mutual
def szD : D → Nat
  | .tup ds | .lst ds => 1 + szDs ds
  | _ => 1
def szDs : List D → Nat
  | [] => 0
  | d :: ds => szD d + szDs ds
end
mutual
theorem wfD_mono : ∀ (d : D) (n : Nat), wfD n d = true → wfD (n + 1) d = true
  | .non, _, _ => by simp [wfD]
  | .bl _, _, _ => by simp [wfD]
  | .int i, _, h => by simpa [wfD] using h
  | .str x, _, h => by simpa [wfD] using h
  | .tup ds, 0, h => by simp [wfD] at h
  | .tup ds, n + 1, h => by rw [wf_tup] at h ⊢; exact wfDs_mono ds n h
  | .lst ds, 0, h => by simp [wfD] at h
  | .lst ds, n + 1, h => by rw [wf_lst] at h ⊢; exact wfDs_mono ds n h
  | .dct kvs, n, h => by simp [wfD] at h ⊢; exact h.2
  | .ty _, _, h => by simp [wfD] at h
  | .glo _, _, h => by simp [wfD] at h
  | .ref _, _, h => by simp [wfD] at h
  | .xcp _ _, _, h => by simp [wfD] at h
  | .lck _, _, h => by simp [wfD] at h
  | .kdc _, _, h => by simp [wfD] at h
theorem wfDs_mono : ∀ (ds : List D) (n : Nat), wfDs n ds = true → wfDs (n + 1) ds = true
  | [], _, _ => rfl
  | d :: ds, n, h => by
    simp only [wfDs, Bool.and_eq_true] at h ⊢
    exact ⟨wfD_mono d n h.1, wfDs_mono ds n h.2⟩
end
theorem wfDs_all (n : Nat) : ∀ ds : List D, wfDs n ds = true ↔ ∀ d ∈ ds, wfD n d = true
  | [] => by simp [wfDs]
  | d :: ds => by simp [wfDs, wfDs_all n ds]
theorem szD_pos (d : D) : 1 ≤ szD d := by cases d <;> simp [szD]
theorem szDs_append : ∀ a b : List D, szDs (a ++ b) = szDs a + szDs b
  | [], b => by simp [szDs]
  | x :: a, b => by simp [szDs, szDs_append a b, Nat.add_assoc]
theorem szDs_take_drop (n : Nat) (a : List D) : szDs (a.take n) + szDs (a.drop n) = szDs a := by rw [← szDs_append, List.take_append_drop]
theorem szDs_mem {d : D} : ∀ {ds : List D}, d ∈ ds → szD d ≤ szDs ds
  | x :: ds, h => by
    simp only [szDs]
    rcases List.mem_cons.mp h with rfl | h
    · omega
    · have := szDs_mem h; omega
theorem szDs_length : ∀ ds : List D, ds.length ≤ szDs ds
  | [] => Nat.le_refl _
  | d :: ds => by
    have := szDs_length ds
    have := szD_pos d
    simp only [szDs, List.length_cons]; omega
theorem szDs_rep (d : D) : ∀ n : Nat, szDs (List.replicate n d) = n * szD d
  | 0 => by simp [szDs]
  | n + 1 => by simp [List.replicate_succ, szDs, szDs_rep d n, Nat.add_mul, Nat.add_comm]
/-- data of depth n, size w -/
def Cl (n w : Nat) (d : D) : Prop := wfD n d = true ∧ szD d ≤ w
def Cls (n w : Nat) (ds : List D) : Prop := wfDs n ds = true ∧ szDs ds ≤ w
section
variable {n m w v : Nat} {d : D} {ds es : List D}
theorem wfD_le (hn : n ≤ m) (h : wfD n d = true) : wfD m d = true := by
  induction hn with
  | refl => exact h
  | step _ ih => exact wfD_mono _ _ ih
theorem wfDs_le (hn : n ≤ m) (h : wfDs n ds = true) : wfDs m ds = true := (wfDs_all m ds).mpr fun d hd => wfD_le hn ((wfDs_all n ds).mp h d hd)
theorem Cl.le (h : Cl n w d) (hn : n ≤ m) (hw : w ≤ v) : Cl m v d := ⟨wfD_le hn h.1, Nat.le_trans h.2 hw⟩
theorem Cls.le (h : Cls n w ds) (hn : n ≤ m) (hw : w ≤ v) : Cls m v ds := ⟨wfDs_le hn h.1, Nat.le_trans h.2 hw⟩
theorem Cls.nil : Cls n w [] := ⟨rfl, Nat.zero_le _⟩
theorem Cls.cons (h : Cl n w d) (k : Cls n v ds) : Cls n (w + v) (d :: ds) := ⟨by simp [wfDs, h.1, k.1], by have := h.2; have := k.2; simp only [szDs]; omega⟩
theorem Cls.one (h : Cl n w d) : Cls n w [d] := ⟨by simp [wfDs, h.1], by have := h.2; simp only [szDs]; omega⟩
theorem Cls.app (h : Cls n w ds) (k : Cls n v es) : Cls n (w + v) (ds ++ es) := ⟨(wfDs_all _ _).mpr fun d hd => by
  rcases List.mem_append.mp hd with hd | hd
  · exact (wfDs_all _ _).mp h.1 d hd
  · exact (wfDs_all _ _).mp k.1 d hd, by have := h.2; have := k.2; rw [szDs_append]; omega⟩
theorem Cl.tup (h : Cls n w ds) : Cl (n + 1) (1 + w) (.tup ds) := ⟨by rw [wf_tup]; exact h.1, by have := h.2; simp only [szD]; omega⟩
theorem Cl.lst (h : Cls n w ds) : Cl (n + 1) (1 + w) (.lst ds) := ⟨by rw [wf_lst]; exact h.1, by have := h.2; simp only [szD]; omega⟩
theorem Cl.int {i : Int} (h : i.natAbs < 10 ^ 32) (hw : 1 ≤ w) : Cl n w (.int i) := ⟨by simp only [wfD, h, decide_true], hw⟩
theorem Cls.mem (h : Cls n w ds) (hd : d ∈ ds) : Cl n w d := ⟨(wfDs_all _ _).mp h.1 d hd, Nat.le_trans (szDs_mem hd) h.2⟩
theorem Cls.take (h : Cls n w ds) (k : Nat) : Cls n w (ds.take k) := ⟨(wfDs_all _ _).mpr fun d hd => (wfDs_all _ _).mp h.1 d (List.mem_of_mem_take hd), by have := szDs_take_drop k ds; have := h.2; omega⟩
theorem Cls.drop (h : Cls n w ds) (k : Nat) : Cls n w (ds.drop k) := ⟨(wfDs_all _ _).mpr fun d hd => (wfDs_all _ _).mp h.1 d (List.mem_of_mem_drop hd), by have := szDs_take_drop k ds; have := h.2; omega⟩
/-- one place takes another part -/
theorem Cls.put {k : Nat} {j : Nat} (h : Cls n w ds) (hj : k ≤ j) (p : Cls n v es) : Cls n (w + v) (ds.take k ++ es ++ ds.drop j) := by
  have a := h.take k
  have b := h.drop j
  refine ⟨((Cls.app (Cls.app a p) b).1), ?_⟩
  have e := szDs_take_drop k ds
  have e2 := szDs_take_drop (j - k) (ds.drop k)
  rw [List.drop_drop, show k + (j - k) = j by omega] at e2
  have := h.2
  have := p.2
  rw [szDs_append, szDs_append]
  omega
theorem Cls.rep (h : Cl n w d) (k : Nat) : Cls n (k * w) (List.replicate k d) := ⟨(wfDs_all _ _).mpr fun x hx => by rw [List.eq_of_mem_replicate hx]; exact h.1, by rw [szDs_rep]; exact Nat.mul_le_mul_left k h.2⟩
theorem Cls.all {w : Nat} : ∀ {ds : List D}, (∀ d ∈ ds, Cl n w d) → Cls n (ds.length * w) ds
  | [], _ => Cls.nil
  | d :: ds, h => by
    have a := h d (List.mem_cons_self ..)
    have b := Cls.all fun e he => h e (List.mem_cons_of_mem _ he)
    exact (Cls.cons a b).le (Nat.le_refl _) (by rw [List.length_cons, Nat.add_mul]; omega)
end
theorem Cl.of_tup {n w : Nat} {ds : List D} (h : Cl n w (.tup ds)) : ∃ m v, n = m + 1 ∧ w = v + 1 ∧ Cls m v ds := by
  obtain ⟨h1, h2⟩ := h
  cases n with
  | zero => simp [wfD] at h1
  | succ m => exact ⟨m, w - 1, rfl, by simp only [szD] at h2; omega, by rw [wf_tup] at h1; exact h1, by simp only [szD] at h2; omega⟩
theorem Cl.of_lst {n w : Nat} {ds : List D} (h : Cl n w (.lst ds)) : ∃ m v, n = m + 1 ∧ w = v + 1 ∧ Cls m v ds := by
  obtain ⟨h1, h2⟩ := h
  cases n with
  | zero => simp [wfD] at h1
  | succ m => exact ⟨m, w - 1, rfl, by simp only [szD] at h2; omega, by rw [wf_lst] at h1; exact h1, by simp only [szD] at h2; omega⟩
/-! ### their texts -/
theorem len_toList (x : Str) : x.cps.toList.length = x.length := by simp [Str.length]
theorem listText_le (ts : List Str) : (listText ts).length ≤ piled ts + 2 := by
  cases ts with
  | nil => decide
  | cons t r =>
    have e : listText (t :: r) = textFrom 1 (("[" : Str) ++ ("" : String) ++ t) r ++ "]" := rfl
    rw [e, strLen_append, textFrom_length_pos r 1 _ (by decide), strLen_append, strLen_append, piled_cons]
    have e1 : (("[" : String) : Str).length = 1 := rfl
    have e2 : (("" : String) : Str).length = 0 := rfl
    have e3 : (("]" : String) : Str).length = 1 := rfl
    omega
theorem tupleText_le (ts : List Str) : (tupleText ts).length ≤ piled ts + 3 := by
  cases ts with
  | nil => decide
  | cons t r =>
    have e := join_length_add (t :: r) (by simp)
    have e1 : (("(" : String) : Str).length = 1 := rfl
    have e2 : (((if (t :: r).length == 1 then ",)" else ")" : String)) : Str).length ≤ 2 := by split <;> decide
    unfold tupleText
    rw [strLen_append, strLen_append]
    omega
mutual
theorem shown_le : ∀ (d : D) (n : Nat), wfD n d = true → (pd d).shown.length + 2 ≤ 140 * szD d
  | .non, _, _ => by simp only [pd, PyData.shown, szD]; decide
  | .bl b, _, _ => by cases b <;> simp only [pd, PyData.shown, szD] <;> decide
  | .int i, _, h => by
    have h : i.natAbs < 10 ^ 32 := by simpa only [wfD, decide_eq_true_eq] using h
    have e := int_text_length_le10 (k := 32) (by decide) h
    simp only [pd, PyData.shown, szD]
    rw [ofString_length]; omega
  | .str x, _, h => by
    simp only [wfD, Bool.and_eq_true, decide_eq_true_eq, List.all_eq_true] at h
    have e := StrLaws.reprText_len (toStr x) fun c hc => Nat.lt_of_lt_of_le (h.2 c (by simpa [toStr] using hc)) (by decide)
    have e2 : (toStr x).length = x.length := by simp [toStr, Str.length]
    simp only [pd, PyData.shown, szD]
    omega
  | .tup ds, 0, h => by simp [wfD] at h
  | .tup ds, n + 1, h => by
    rw [wf_tup] at h
    have e := shownAll_le ds n h
    have e2 := tupleText_le (PyData.shownAll (pds ds))
    simp only [pd, PyData.shown, szD]
    omega
  | .lst ds, 0, h => by simp [wfD] at h
  | .lst ds, n + 1, h => by
    rw [wf_lst] at h
    have e := shownAll_le ds n h
    have e2 := listText_le (PyData.shownAll (pds ds))
    simp only [pd, PyData.shown, szD]
    omega
  | .dct [], n, h => by simp only [pd, pkv, PyData.shown, PyData.shownKv, szD]; decide
  | .dct (_ :: _), n, h => by simp [wfD] at h
  | .ty _, _, h => by simp [wfD] at h
  | .glo _, _, h => by simp [wfD] at h
  | .ref _, _, h => by simp [wfD] at h
  | .xcp _ _, _, h => by simp [wfD] at h
  | .lck _, _, h => by simp [wfD] at h
  | .kdc _, _, h => by simp [wfD] at h
theorem shownAll_le : ∀ (ds : List D) (n : Nat), wfDs n ds = true → piled (PyData.shownAll (pds ds)) ≤ 140 * szDs ds
  | [], _, _ => by simp only [pds, PyData.shownAll, piled_nil]; omega
  | d :: ds, n, h => by
    simp only [wfDs, Bool.and_eq_true] at h
    have a := shown_le d n h.1
    have b := shownAll_le ds n h.2
    simp only [pds, PyData.shownAll, piled_cons, szDs]
    omega
end
theorem log_le {i : Nat} (h : i < 10 ^ 32) : i.log2 < 1920 := by
  by_cases h0 : i = 0
  · subst h0; decide
  · rw [Nat.log2_lt h0]
    exact Nat.lt_of_lt_of_le h (by decide +kernel)
mutual
theorem wf_rep : ∀ (d : D) (n : Nat), wfD n d = true → repOk n d = true
  | .non, _, _ => by simp [repOk]
  | .bl _, _, _ => by simp [repOk]
  | .int i, _, h => by
    have h : i.natAbs < 10 ^ 32 := by simpa only [wfD, decide_eq_true_eq] using h
    simp only [repOk, decide_eq_true_eq]
    exact log_le h
  | .str x, _, h => by simp [repOk]
  | .tup ds, 0, h => by simp [wfD] at h
  | .tup ds, n + 1, h => by rw [wf_tup] at h; simp only [repOk]; exact wf_reps ds n h
  | .lst ds, 0, h => by simp [wfD] at h
  | .lst ds, n + 1, h => by rw [wf_lst] at h; simp only [repOk]; exact wf_reps ds n h
  | .dct [], 0, h => by simp [wfD] at h
  | .dct [], n + 1, h => by simp [repOk, repOkv]
  | .dct (_ :: _), n, h => by simp [wfD] at h
  | .ty _, _, h => by simp [wfD] at h
  | .glo _, _, h => by simp [wfD] at h
  | .ref _, _, h => by simp [wfD] at h
  | .xcp _ _, _, h => by simp [wfD] at h
  | .lck _, _, h => by simp [wfD] at h
  | .kdc _, _, h => by simp [wfD] at h
theorem wf_reps : ∀ (ds : List D) (n : Nat), wfDs n ds = true → repOks n ds = true
  | [], _, _ => by simp [repOks]
  | d :: ds, n, h => by
    simp only [wfDs, Bool.and_eq_true] at h
    simp only [repOks, Bool.and_eq_true]
    exact ⟨wf_rep d n h.1, wf_reps ds n h.2⟩
end
theorem Cl.vw_ {n w : Nat} {d : D} (h : Cl n w d) (S : Mi.St) : vw S d = d := by
  cases d with
  | ref n => have := h.1; simp [wfD] at this
  | _ => rfl
theorem Cl.repr {n w : Nat} {d : D} (h : Cl n w d) (hn : n ≤ 60) (hw : w ≤ 119000) (S : Mi.St) : repOp S d = some (.str (shw d)) := by
  have a := wf_rep d 60 (wfD_le hn h.1)
  have b := shown_le d n h.1
  have c : (shw d).length ≤ LIM := by
    have := h.2
    show (pd d).shown.cps.toList.length ≤ 16777216
    rw [len_toList]; omega
  simp only [repOp, h.vw_, a, c, decide_true, Bool.and_true, if_true]
end Mi
end
section
set_option Elab.async false
set_option linter.all false
/-! Evaluating by rewriting. -/
namespace Mi
section
variable {P : Pg} {F : Fns} {W : Nat} {e : Env} {S : Mi.St} {d : D}
theorem asg_name {i : Nat} : asg P F (.name i) d e S = if i < e.length then .ok (e.set i (some d)) S else .stuck := by simp only [asg]
theorem asg_tup {ts : List CT} {ds : List D} : asg P F (.tup ts) (.tup ds) e S = if ds.length = ts.length then asgs P F ts ds e S else .stuck := by simp only [asg]
theorem asg_star {ts : List CT} {i : Nat} {ds : List D} : asg P F (.star ts i) (.tup ds) e S = if ts.length ≤ ds.length ∧ ds.length ≤ 16384 then (asgs P F ts (ds.take ts.length) e S).bnd fun e1 S1 => if i < e1.length then .ok (e1.set i (some (.lst (ds.drop ts.length)))) S1 else .stuck else .stuck := by simp only [asg]
theorem asg_subw {o i : CE} : asg P F (.sub o i) d e S = (evE P F o e S).nox.bnd fun x S1 => (evE P F i e S1).nox.bnd fun y S2 => (lift (setItem S2 x y d) S2).bnd fun S3 _ => .ok e S3 := by
  simp only [asg]
  congr 1
  funext x S1
  congr 1
  funext y S2
  cases setItem S2 x y d <;> rfl
theorem asgs_nil : asgs P F [] [] e S = .ok e S := by simp only [asgs]
theorem asgs_cons {t : CT} {ts : List CT} {ds : List D} : asgs P F (t :: ts) (d :: ds) e S = (asg P F t d e S).bnd fun e1 S1 => asgs P F ts ds e1 S1 := by simp only [asgs]
end
theorem le_LIM {n : Nat} (h : n ≤ 1000) : (n ≤ LIM) = True := eq_true (Nat.le_trans h (by decide))
theorem in_tup_str {S : Mi.St} {x : Sg} {ds : List D} (h : ds.all scalD = true) : inOp S (.str x) (.tup ds) = some (ds.any fun z => eqD z (.str x)) := by simp only [inOp, scalD, h, Bool.and_self, if_true]
def isLst : D → Bool
  | .lst _ => true
  | _ => false
def isTupP : D → Bool
  | .tup _ => true
  | _ => false
def isStr : D → Bool
  | .str _ => true
  | _ => false
section
variable {P : Pg} {S : Mi.St} {n w : Nat} {d : D}
theorem isTs_lst (h : Cl n w d) : isTs P S d [.bt "list"] = some (isLst d) := by
  have := h.1
  cases d <;> first | rfl | simp [wfD] at this
theorem isTs_tup (h : Cl n w d) : isTs P S d [.bt "tuple"] = some (isTupP d) := by
  have := h.1
  cases d <;> first | rfl | simp [wfD] at this
theorem isTs_str (h : Cl n w d) : isTs P S d [.bt "str"] = some (isStr d) := by
  have := h.1
  cases d <;> first | rfl | simp [wfD] at this
end
theorem pow20 : powI 2 20 = some 1048576 := by rfl
theorem mod_ {i j : Int} (h : 0 < j) : modI i j = some (i % j) := if_pos h
theorem fdiv_ {i j : Int} (h : 0 < j) (h2 : j < 1073741824) : fdivI i j = some (i / j) := if_pos ⟨h, h2⟩
theorem mul_r {S : Mi.St} {i j : Int} (h : -P64 < j) (h2 : j < P64) : mulOp S (.int i) (.int j) = some (.int (i * j)) := if_pos (Or.inr ⟨h, h2⟩)
theorem asB_bl {b : Bool} : asB (.bl b) = some b := (rfl)
theorem int_op {f : Int → Int → Option Int} {i j : Int} : intOp f (.int i) (.int j) = (f i j).map .int := (rfl)
theorem ord_op {f : Int → Int → Bool} {i j : Int} : ordOp f (.int i) (.int j) = some (.bl (f i j)) := (rfl)
theorem stuck_ {α : Type} {Q : α → Mi.St → Prop} : Wp (.stuck : Re α) Q = False := (rfl)
theorem stuckS_ {N : Env → Mi.St → Prop} {R : D → Mi.St → Prop} : WpS .stuck N R = False := (rfl)
theorem alloc_f {ds : List D} {S : Mi.St} : alloc false ds S = .ok (.lst ds) S := (rfl)
theorem alloc_t {ds : List D} {S : Mi.St} : alloc true ds S = .ok (.ref S.length) (S ++ [some (.lst ds)]) := (rfl)
theorem allocD_f {ds : List (D × D)} {S : Mi.St} : allocD false ds S = .ok (.dct ds) S := (rfl)
theorem allocD_t {ds : List (D × D)} {S : Mi.St} : allocD true ds S = .ok (.ref S.length) (S ++ [some (.dct ds false)]) := (rfl)
theorem lif {c : Prop} [Decidable c] {α : Type} {x : α} (h : c) : (if c then some x else none) = some x := if_pos h
theorem Wp.tB_ {m : Re D} {Q : Bool → Mi.St → Prop} : Wp (tB m) Q = Wp m fun x S1 => ∃ b, asB x = some b ∧ Q b S1 := by simp only [tB, Wp.bnd_, Wp.lift_]
theorem itOf_lst {S : Mi.St} {ds : List D} : itOf S (.lst ds) = some (itFix ds) := (rfl)
theorem itOf_tup {S : Mi.St} {ds : List D} : itOf S (.tup ds) = some (itFix ds) := (rfl)
theorem itOf_str {S : Mi.St} {z : Sg} : itOf S (.str z) = some (itFix (z.map fun c => .str [c])) := (rfl)
theorem len_lst {S : Mi.St} {ds : List D} : biOp S .len [.lst ds] = some (.int ds.length) := (rfl)
theorem len_tup {S : Mi.St} {ds : List D} : biOp S .len [.tup ds] = some (.int ds.length) := (rfl)
theorem len_str {S : Mi.St} {z : Sg} : biOp S .len [.str z] = some (.int z.length) := (rfl)
end Mi
end
section
set_option Elab.async false
set_option linter.all false
namespace K83
open Mi
/-- is_integer(value): 0 value -/
def b_is_integer : List CS := [.ret (.and (.isi (.var 0) [.bt "int"]) (.not (.isi (.var 0) [.bt "bool"])))]
abbrev f_is_integer : FnD := ⟨1, 0, b_is_integer⟩
abbrev n_is_integer : Nat := 0
/-- is_name(value): 0 value 1 letter -/
def b_is_name : List CS := [.ite (.or (.not (.isi (.var 0) [.bt "str"])) (.not (.chn .le .le (.cst (.int 1)) (.bi .len [(.var 0)]) (.glo 31)))) [.ret (.cst (.bl false))] [],
  .ret (.bi .all [(.lc false (.cmp .isin (.var 1) (.glo 30)) (.name 1) (.seq (.var 0)) [] [1])])]
abbrev f_is_name : FnD := ⟨1, 1, b_is_name⟩
abbrev n_is_name : Nat := 1
/-- sum_of(one, two): 0 one 1 two -/
def b_sum_of : List CS := [.ret (.bin .add (.var 0) (.var 1))]
abbrev f_sum_of : FnD := ⟨2, 0, b_sum_of⟩
abbrev n_sum_of : Nat := 2
/-- difference_of(one, two): 0 one 1 two -/
def b_difference_of : List CS := [.ret (.bin .sub (.var 0) (.var 1))]
abbrev f_difference_of : FnD := ⟨2, 0, b_difference_of⟩
abbrev n_difference_of : Nat := 3
/-- is_less(one, two): 0 one 1 two -/
def b_is_less : List CS := [.ret (.bi .int [(.cmp .lt (.var 0) (.var 1))])]
abbrev f_is_less : FnD := ⟨2, 0, b_is_less⟩
abbrev n_is_less : Nat := 4
/-- is_equal(one, two): 0 one 1 two -/
def b_is_equal : List CS := [.ret (.bi .int [(.cmp .eq (.var 0) (.var 1))])]
abbrev f_is_equal : FnD := ⟨2, 0, b_is_equal⟩
abbrev n_is_equal : Nat := 5
/-- is_expression_within(value, depth): 0 value 1 depth 2 word 3 one 4 two -/
def b_is_expression_within : List CS := [.ite (.call 0 [(.var 0)]) [.ret (.and (.cmp .gt (.var 1) (.cst (.int 0))) (.cmp .le (.bi .abs [(.var 0)]) (.glo 34)))] [],
  .ite (.call 1 [(.var 0)]) [.ret (.cmp .gt (.var 1) (.cst (.int 0)))] [],
  .ite (.or (.not (.isi (.var 0) [.bt "tuple"])) (.or (.cmp .ne (.bi .len [(.var 0)]) (.cst (.int 3))) (.cmp .lt (.var 1) (.cst (.int 2))))) [.ret (.cst (.bl false))] [],
  .asg (.tup [(.name 2), (.name 3), (.name 4)]) (.var 0),
  .ite (.or (.not (.isi (.var 2) [.bt "str"])) (.cmp .notin (.var 2) (.glo 39))) [.ret (.cst (.bl false))] [],
  .ret (.and (.call 6 [(.var 3), (.bin .sub (.var 1) (.cst (.int 1)))]) (.call 6 [(.var 4), (.bin .sub (.var 1) (.cst (.int 1)))]))]
abbrev f_is_expression_within : FnD := ⟨2, 3, b_is_expression_within⟩
abbrev n_is_expression_within : Nat := 6
/-- is_expression(value): 0 value -/
def b_is_expression : List CS := [.ret (.call 6 [(.var 0), (.glo 32)])]
abbrev f_is_expression : FnD := ⟨1, 0, b_is_expression⟩
abbrev n_is_expression : Nat := 7
/-- value_of(expression, variables): 0 expression 1 variables -/
def b_value_of : List CS := [.ite (.not (.call 7 [(.var 0)])) [.rse 43 [(.var 0)]] [],
  .ret (.call 9 [(.var 0), (.var 1)])]
abbrev f_value_of : FnD := ⟨2, 0, b_value_of⟩
abbrev n_value_of : Nat := 8
/-- computed(expression, variables): 0 expression 1 variables 2 calculation 3 word 4 one 5 two -/
def b_computed : List CS := [.ite (.isi (.var 0) [.bt "str"]) [.ret (.met (.var 1) .get2 [(.var 0), (.cst (.int 0))])] [],
  .ite (.not (.isi (.var 0) [.bt "tuple"])) [.ret (.var 0)] [],
  .asg (.tup [(.name 3), (.name 4), (.name 5)]) (.var 0),
  .asg (.name 2) (.sub (.glo 39) (.var 3)),
  .ret (.cav 2 [(.call 9 [(.var 4), (.var 1)]), (.call 9 [(.var 5), (.var 1)])])]
abbrev f_computed : FnD := ⟨2, 4, b_computed⟩
abbrev n_computed : Nat := 9
/-- is_part(kind, value): 0 kind 1 value -/
def b_is_part : List CS := [.ite (.cmp .eq (.var 0) (.glo 35)) [.ret (.call 1 [(.var 1)])] [],
  .ret (.ite (.cmp .eq (.var 0) (.glo 36)) (.call 7 [(.var 1)]) (.isi (.var 1) [.bt "list"]))]
abbrev f_is_part : FnD := ⟨2, 0, b_is_part⟩
abbrev n_is_part : Nat := 10
/-- is_instruction(value): 0 value 1 word 2 parts 3 kind 4 part -/
def b_is_instruction : List CS := [.ite (.or (.not (.isi (.var 0) [.bt "tuple"])) (.cmp .eq (.bi .len [(.var 0)]) (.cst (.int 0)))) [.ret (.cst (.bl false))] [],
  .asg (.star [(.name 1)] 2) (.var 0),
  .ite (.or (.not (.isi (.var 1) [.bt "str"])) (.or (.cmp .notin (.var 1) (.glo 38)) (.cmp .ne (.bi .len [(.var 2)]) (.bi .len [(.sub (.glo 38) (.var 1))])))) [.ret (.cst (.bl false))] [],
  .ret (.bi .all [(.lc false (.call 10 [(.var 3), (.var 4)]) (.tup [(.name 3), (.name 4)]) (.zip (.sub (.glo 38) (.var 1)) (.var 2)) [] [3, 4])])]
abbrev f_is_instruction : FnD := ⟨1, 4, b_is_instruction⟩
abbrev n_is_instruction : Nat := 11
/-- entries(path, body): 0 path 1 body 2 index 3 one -/
def b_entries : List CS := [.ret (.rev true (.lc false (.tup [(.bin .add (.var 0) (.tup [(.var 2)])), (.var 3)]) (.tup [(.name 2), (.name 3)]) (.enu (.var 1)) [] [2, 3]))]
abbrev f_entries : FnD := ⟨2, 2, b_entries⟩
abbrev n_entries : Nat := 12
/-- first_problem(value): 0 value 1 pending 2 seen 3 path 4 one 5 position 6 kind -/
def b_first_problem : List CS := [.ite (.not (.isi (.var 0) [.bt "list"])) [.ret (.tup [])] [],
  .asg (.tup [(.name 1), (.name 2)]) (.tup [(.call 12 [(.tup []), (.var 0)]), (.cst (.int 0))]),
  .whl (.cmp .ne (.var 1) (.lst false [])) [.asg (.tup [(.name 3), (.name 4)]) (.met (.var 1) .pop []), .aug 2 .add (.cst (.int 1)), .ite (.or (.cmp .gt (.var 2) (.glo 33)) (.or (.cmp .ge (.bin .fdiv (.bi .len [(.var 3)]) (.cst (.int 2))) (.glo 32)) (.not (.call 11 [(.var 4)])))) [.ret (.var 3)] [], .for_ (.tup [(.name 5), (.name 6)]) (.seq (.rev false (.lenu (.sub (.glo 38) (.sub (.var 4) (.cst (.int 0))))))) [.ite (.cmp .eq (.var 6) (.glo 37)) [.exp (.met (.var 1) .extend [(.call 12 [(.bin .add (.var 3) (.tup [(.bin .add (.var 5) (.cst (.int 1)))])), (.sub (.var 4) (.bin .add (.var 5) (.cst (.int 1))))])])] []]],
  .ret (.cst .non)]
abbrev f_first_problem : FnD := ⟨1, 6, b_first_problem⟩
abbrev n_first_problem : Nat := 13
/-- is_program(value): 0 value -/
def b_is_program : List CS := [.ret (.cmp .isN (.call 13 [(.var 0)]) (.cst .non))]
abbrev f_is_program : FnD := ⟨1, 0, b_is_program⟩
abbrev n_is_program : Nat := 14
/-- _law_rng(_law_script, _law_k): 0 _law_script 1 _law_k 2 _law_cell -/
def b_law_rng : List CS := [.asg (.name 2) (.ite (.cmp .lt (.var 1) (.bi .len [(.var 0)])) (.bi .abs [(.sub (.var 0) (.var 1))]) (.cst (.int 0))),
  .ret (.lst true [(.bi .max [(.cst (.int 0)), (.bin .sub (.var 2) (.bin .pow (.cst (.int 10)) (.cst (.int 18))))]), (.bin .add (.bin .mod (.bin .pow (.bin .add (.bin .add (.bin .mod (.var 2) (.cst (.int 2147483543))) (.bin .mul (.cst (.int 101)) (.var 1))) (.cst (.int 7))) (.cst (.int 2))) (.cst (.int 2147483497))) (.cst (.int 1)))])]
abbrev f_law_rng : FnD := ⟨2, 1, b_law_rng⟩
abbrev n_law_rng : Nat := 15
/-- _law_draw(_law_rng_here, _law_many): 0 _law_rng_here 1 _law_many 2 _law_mixed 3 _law_digit -/
def b_law_draw : List CS := [.ite (.cmp .gt (.sub (.var 0) (.cst (.int 0))) (.cst (.int 0))) [.asg (.tup [(.sub (.var 0) (.cst (.int 0))), (.name 3)]) (.bi .divmod [(.sub (.var 0) (.cst (.int 0))), (.var 1)]), .ret (.var 3)] [],
  .asg (.sub (.var 0) (.cst (.int 1))) (.bin .mod (.bin .add (.bin .mul (.sub (.var 0) (.cst (.int 1))) (.cst (.int 48271))) (.cst (.int 10007))) (.cst (.int 2147483587))),
  .asg (.name 2) (.bin .fdiv (.bin .mod (.bin .mul (.sub (.var 0) (.cst (.int 1))) (.sub (.var 0) (.cst (.int 1)))) (.cst (.int 2147483549))) (.cst (.int 11))),
  .ret (.ite (.cmp .lt (.var 1) (.bin .pow (.cst (.int 2)) (.cst (.int 20)))) (.bin .mod (.var 2) (.var 1)) (.bin .mod (.bin .mul (.bin .add (.bin .mul (.var 2) (.cst (.int 2147483563))) (.sub (.var 0) (.cst (.int 1)))) (.cst (.int 2147483563))) (.var 1)))]
abbrev f_law_draw : FnD := ⟨2, 2, b_law_draw⟩
abbrev n_law_draw : Nat := 16
/-- _law_choice(_law_rng_here, _law_options): 0 _law_rng_here 1 _law_options -/
def b_law_choice : List CS := [.ret (.sub (.var 1) (.call 16 [(.var 0), (.bi .len [(.var 1)])]))]
abbrev f_law_choice : FnD := ⟨2, 0, b_law_choice⟩
abbrev n_law_choice : Nat := 17
/-- _law_name(_law_rng_here, _law_used): 0 _law_rng_here 1 _law_used 2 _law_letters 3 _law_length 4 _law_name_here 5 _law_fresh 6 _law_k 7 _law_one -/
def b_law_name : List CS := [.asg (.name 2) (.cst (.str [97, 98, 99, 100, 101, 102, 103, 104, 105, 106, 107, 108, 109, 110, 111, 112, 113, 114, 115, 116, 117, 118, 119, 120, 121, 122])),
  .asg (.name 3) (.sub (.lst false [(.cst (.int 1)), (.cst (.int 1)), (.cst (.int 2)), (.bin .add (.cst (.int 1)) (.call 16 [(.var 0), (.cst (.int 8))]))]) (.call 16 [(.var 0), (.cst (.int 4))])),
  .asg (.name 4) (.met (.cst (.str [])) .join [(.lc false (.sub (.var 2) (.call 16 [(.var 0), (.cst (.int 26))])) (.name 6) (.rng [(.var 3)]) [] [6])]),
  .ite (.cmp .eq (.call 16 [(.var 0), (.cst (.int 8))]) (.cst (.int 0))) [.asg (.name 4) (.sub (.lst false [(.cst (.str [114, 101, 113, 117, 101, 115, 116])), (.cst (.str [114, 101, 108, 101, 97, 115, 101])), (.cst (.str [111, 98, 106, 101, 99, 116])), (.cst (.str [99, 101, 108, 108])), (.cst (.str [102, 114, 101, 101])), (.cst (.str [110, 97, 109, 101, 115])), (.cst (.str [115, 101, 116, 116, 108, 101])), (.cst (.str [117, 110, 100, 111]))]) (.call 16 [(.var 0), (.cst (.int 8))]))] [],
  .asg (.name 5) (.bin .add (.lst false [(.var 4)]) (.lc false (.bin .add (.bin .add (.slc (.var 4) none (some (.cst (.int 6)))) (.sub (.var 2) (.bin .fdiv (.var 6) (.cst (.int 26))))) (.sub (.var 2) (.bin .mod (.var 6) (.cst (.int 26))))) (.name 6) (.rng [(.cst (.int 676))]) [] [6])),
  .ret (.sub (.lc false (.var 7) (.name 7) (.seq (.var 5)) [(.cmp .notin (.var 7) (.var 1))] [7]) (.cst (.int 0)))]
abbrev f_law_name : FnD := ⟨2, 6, b_law_name⟩
abbrev n_law_name : Nat := 18
/-- _law_names(_law_rng_here, _law_many, _law_used): 0 _law_rng_here 1 _law_many 2 _law_used 3 _law_result 4 _law_k -/
def b_law_names : List CS := [.asg (.name 3) (.lst true []),
  .for_ (.name 4) (.rng [(.var 1)]) [.exp (.met (.var 3) .append [(.call 18 [(.var 0), (.bin .add (.var 2) (.var 3))])])],
  .ret (.var 3)]
abbrev f_law_names : FnD := ⟨3, 2, b_law_names⟩
abbrev n_law_names : Nat := 19
/-- _law_leaf(_law_rng_here, _law_names_here): 0 _law_rng_here 1 _law_names_here 2 _law_edge 3 _law_some -/
def b_law_leaf : List CS := [.asg (.name 2) (.call 17 [(.var 0), (.lst false [(.bin .pow (.cst (.int 10)) (.cst (.int 12))), (.neg (.bin .pow (.cst (.int 10)) (.cst (.int 12)))), (.bin .add (.bin .pow (.cst (.int 10)) (.cst (.int 12))) (.cst (.int 1))), (.bin .sub (.neg (.bin .pow (.cst (.int 10)) (.cst (.int 12)))) (.cst (.int 1))), (.bin .pow (.cst (.int 10)) (.cst (.int 30)))])]),
  .asg (.name 3) (.lst false [(.call 17 [(.var 0), (.var 1)]), (.call 17 [(.var 0), (.var 1)]), (.bin .sub (.call 16 [(.var 0), (.cst (.int 9))]) (.cst (.int 4))), (.call 16 [(.var 0), (.bin .pow (.cst (.int 10)) (.cst (.int 12)))])]),
  .ret (.ite (.cmp .eq (.call 16 [(.var 0), (.cst (.int 24))]) (.cst (.int 0))) (.var 2) (.call 17 [(.var 0), (.var 3)]))]
abbrev f_law_leaf : FnD := ⟨2, 2, b_law_leaf⟩
abbrev n_law_leaf : Nat := 20
/-- _law_drawn(_law_rng_here, _law_names_here, _law_deep): 0 _law_rng_here 1 _law_names_here 2 _law_deep 3 _law_parts -/
def b_law_drawn : List CS := [.ite (.cmp .lt (.var 2) (.cst (.int 2))) [.ret (.call 20 [(.var 0), (.var 1)])] [],
  .asg (.name 3) (.lst false [(.call 21 [(.var 0), (.var 1), (.bin .sub (.var 2) (.cst (.int 1)))]), (.call 21 [(.var 0), (.var 1), (.bin .add (.cst (.int 1)) (.call 16 [(.var 0), (.bi .min [(.cst (.int 2)), (.bin .sub (.var 2) (.cst (.int 1)))])]))])]),
  .ite (.cmp .eq (.call 16 [(.var 0), (.cst (.int 2))]) (.cst (.int 0))) [.asg (.name 3) (.rev false (.var 3))] [],
  .ret (.tup [(.call 17 [(.var 0), (.lst false [(.cst (.str [97, 100, 100])), (.cst (.str [115, 117, 98])), (.cst (.str [108, 101, 115, 115])), (.cst (.str [101, 113, 117, 97, 108]))])]), (.sub (.var 3) (.cst (.int 0))), (.sub (.var 3) (.cst (.int 1)))])]
abbrev f_law_drawn : FnD := ⟨3, 1, b_law_drawn⟩
abbrev n_law_drawn : Nat := 21
/-- _law_odd(_law_rng_here): 0 _law_rng_here 1 _law_some -/
def b_law_odd : List CS := [.asg (.name 1) (.lst false [(.cst .non), (.cst (.bl true)), (.cst (.bl false)), (.cst (.str [])), (.cst (.str [65])), (.cst (.str [97, 32, 98])), (.cst (.str [110, 105, 110, 101, 108, 101, 116, 116, 114])), (.cst (.str [49])), (.lst false []), (.lst false [(.cst (.str [97, 100, 100])), (.cst (.int 1)), (.cst (.int 2))]), (.tup []), (.tup [(.cst (.str [97, 100, 100]))]), (.tup [(.cst (.str [97, 100, 100])), (.cst (.int 1))]), (.dsp false [])]),
  .ret (.call 17 [(.var 0), (.bin .add (.var 1) (.lst false [(.tup [(.cst (.str [97, 100, 100])), (.cst (.int 1)), (.cst (.int 2)), (.cst (.int 3))]), (.tup [(.cst (.str [109, 117, 108])), (.cst (.int 1)), (.cst (.int 2))]), (.tup [(.cst (.int 1)), (.cst (.int 2)), (.cst (.int 3))]), (.tup [(.cst (.str [65, 100, 100])), (.cst (.int 1)), (.cst (.int 2))]), (.tup [(.lst false []), (.cst (.int 1)), (.cst (.int 2))]), (.tup [(.cst (.str [97]))])]))])]
abbrev f_law_odd : FnD := ⟨1, 1, b_law_odd⟩
abbrev n_law_odd : Nat := 22
/-- _law_spoilt(_law_rng_here, _law_value): 0 _law_rng_here 1 _law_value 2 _law_at -/
def b_law_spoilt : List CS := [.ite (.or (.not (.isi (.var 1) [.bt "tuple"])) (.or (.cmp .ne (.bi .len [(.var 1)]) (.cst (.int 3))) (.cmp .eq (.call 16 [(.var 0), (.cst (.int 3))]) (.cst (.int 0))))) [.ret (.call 22 [(.var 0)])] [],
  .asg (.name 2) (.call 16 [(.var 0), (.cst (.int 3))]),
  .ite (.cmp .eq (.var 2) (.cst (.int 0))) [.ret (.bin .add (.tup [(.call 22 [(.var 0)])]) (.slc (.var 1) (some (.cst (.int 1))) none))] [],
  .ret (.bin .add (.bin .add (.slc (.var 1) none (some (.var 2))) (.tup [(.call 23 [(.var 0), (.sub (.var 1) (.var 2))])])) (.slc (.var 1) (some (.bin .add (.var 2) (.cst (.int 1)))) none))]
abbrev f_law_spoilt : FnD := ⟨2, 1, b_law_spoilt⟩
abbrev n_law_spoilt : Nat := 23
/-- _law_is_tag(_law_value): 0 _law_value 1 _law_letters 2 _law_sign -/
def b_law_is_tag : List CS := [.asg (.name 1) (.cst (.str [97, 98, 99, 100, 101, 102, 103, 104, 105, 106, 107, 108, 109, 110, 111, 112, 113, 114, 115, 116, 117, 118, 119, 120, 121, 122])),
  .ret (.and (.isi (.var 0) [.bt "str"]) (.and (.chn .lt .lt (.cst (.int 0)) (.bi .len [(.var 0)]) (.cst (.int 9))) (.bi .all [(.lc false (.cmp .isin (.var 2) (.var 1)) (.name 2) (.seq (.var 0)) [] [2])])))]
abbrev f_law_is_tag : FnD := ⟨1, 2, b_law_is_tag⟩
abbrev n_law_is_tag : Nat := 24
/-- _law_depth(_law_value): 0 _law_value -/
def b_law_depth : List CS := [.ite (.call 24 [(.var 0)]) [.ret (.cst (.int 1))] [],
  .ite (.and (.isi (.var 0) [.bt "int"]) (.not (.isi (.var 0) [.bt "bool"]))) [.ret (.ite (.chn .le .le (.neg (.bin .pow (.cst (.int 10)) (.cst (.int 12)))) (.var 0) (.bin .pow (.cst (.int 10)) (.cst (.int 12)))) (.cst (.int 1)) (.cst (.int 100)))] [],
  .ite (.or (.not (.isi (.var 0) [.bt "tuple"])) (.or (.cmp .ne (.bi .len [(.var 0)]) (.cst (.int 3))) (.not (.isi (.sub (.var 0) (.cst (.int 0))) [.bt "str"])))) [.ret (.cst (.int 100))] [],
  .ite (.cmp .notin (.sub (.var 0) (.cst (.int 0))) (.tup [(.cst (.str [97, 100, 100])), (.cst (.str [115, 117, 98])), (.cst (.str [108, 101, 115, 115])), (.cst (.str [101, 113, 117, 97, 108]))])) [.ret (.cst (.int 100))] [],
  .ret (.bi .min [(.cst (.int 100)), (.bin .add (.cst (.int 1)) (.bi .max [(.call 25 [(.sub (.var 0) (.cst (.int 1)))]), (.call 25 [(.sub (.var 0) (.cst (.int 2)))])]))])]
abbrev f_law_depth : FnD := ⟨1, 0, b_law_depth⟩
abbrev n_law_depth : Nat := 25
/-- _law_worth(_law_value, _law_numbers): 0 _law_value 1 _law_numbers 2 _law_one 3 _law_other -/
def b_law_worth : List CS := [.ite (.isi (.var 0) [.bt "str"]) [.ret (.met (.var 1) .get2 [(.var 0), (.cst (.int 0))])] [],
  .ite (.isi (.var 0) [.bt "int"]) [.ret (.var 0)] [],
  .asg (.tup [(.name 2), (.name 3)]) (.tup [(.call 26 [(.sub (.var 0) (.cst (.int 1))), (.var 1)]), (.call 26 [(.sub (.var 0) (.cst (.int 2))), (.var 1)])]),
  .ite (.cmp .isin (.sub (.var 0) (.cst (.int 0))) (.tup [(.cst (.str [108, 101, 115, 115])), (.cst (.str [101, 113, 117, 97, 108]))])) [.ret (.bi .int [(.ite (.cmp .eq (.sub (.var 0) (.cst (.int 0))) (.cst (.str [108, 101, 115, 115]))) (.cmp .lt (.var 2) (.var 3)) (.cmp .eq (.var 2) (.var 3)))])] [],
  .ret (.ite (.cmp .eq (.sub (.var 0) (.cst (.int 0))) (.cst (.str [97, 100, 100]))) (.bin .add (.var 2) (.var 3)) (.bin .sub (.var 2) (.var 3)))]
abbrev f_law_worth : FnD := ⟨2, 2, b_law_worth⟩
abbrev n_law_worth : Nat := 26
/-- _law_told(_law_value, _law_numbers): 0 _law_value 1 _law_numbers 2 _law_told_here 3 e -/
def b_law_told : List CS := [.asg (.name 2) (.lst false [(.cst (.str [111, 116, 104, 101, 114]))]),
  .trA [.asg (.name 2) (.lst false [(.cst (.str [118, 97, 108, 117, 101])), (.call 8 [(.var 0), (.var 1)])])] 43 3 [.asg (.name 2) (.lst false [(.cst (.str [105, 110, 118, 97, 108, 105, 100])), (.exf 3 [118, 97, 108, 117, 101]), (.exi 3 [40]), (.exi 3 [42, 41])])],
  .ret (.var 2)]
abbrev f_law_told : FnD := ⟨2, 2, b_law_told⟩
abbrev n_law_told : Nat := 27
/-- _law_right(_law_value, _law_numbers): 0 _law_value 1 _law_numbers 2 _law_due 3 _law_turn 4 _law_shown 5 _law_is_right -/
def b_law_right : List CS := [.asg (.tup [(.name 4), (.name 5)]) (.tup [(.bi .rep [(.lst false [(.var 0), (.var 1)])]), (.cmp .le (.call 25 [(.var 0)]) (.cst (.int 6)))]),
  .asg (.name 2) (.ite (.var 5) (.lst false [(.cst (.str [118, 97, 108, 117, 101])), (.call 26 [(.var 0), (.var 1)])]) (.lst false [(.cst (.str [105, 110, 118, 97, 108, 105, 100])), (.var 0), (.cst (.bl true)), (.cst (.bl false))])),
  .for_ (.name 3) (.rng [(.cst (.int 2))]) [.ite (.or (.cmp .ne (.bi .rep [(.call 7 [(.var 0)])]) (.bi .rep [(.var 5)])) (.cmp .ne (.bi .rep [(.call 27 [(.var 0), (.var 1)])]) (.bi .rep [(.var 2)]))) [.ret (.cst (.bl false))] []],
  .ite (.cmp .ne (.bi .rep [(.call 14 [(.lst false [(.tup [(.cst (.str [111, 117, 116])), (.var 0)])])])]) (.bi .rep [(.var 5)])) [.ret (.cst (.bl false))] [],
  .ret (.cmp .eq (.bi .rep [(.lst false [(.var 0), (.var 1)])]) (.var 4))]
abbrev f_law_right : FnD := ⟨2, 4, b_law_right⟩
abbrev n_law_right : Nat := 28
/-- law(_law_script): 0 _law_script 1 _law_k 2 _law_rng_here 3 _law_names_here 4 _law_numbers 5 _law_some 6 _law_value 7 _law_turn 8 _law_name_here -/
def b_law : List CS := [.for_ (.name 1) (.rng [(.bi .max [(.cst (.int 1)), (.bi .min [(.cst (.int 8)), (.bi .len [(.var 0)])])])]) [.asg (.name 2) (.call 15 [(.var 0), (.var 1)]), .asg (.name 3) (.call 19 [(.var 2), (.bin .add (.cst (.int 1)) (.call 16 [(.var 2), (.cst (.int 5))])), (.lst false [])]), .asg (.name 4) (.bi .dict [(.lc false (.tup [(.var 8), (.bin .sub (.call 16 [(.var 2), (.cst (.int 2001))]) (.cst (.int 1000)))]) (.name 8) (.seq (.slc (.var 3) none (some (.cst (.int 4))))) [] [8])]), .asg (.name 5) (.lc true (.call 21 [(.var 2), (.var 3), (.bin .add (.cst (.int 1)) (.call 16 [(.var 2), (.cst (.int 7))]))]) (.name 7) (.rng [(.cst (.int 5))]) [] [7]), .for_ (.name 6) (.seq (.bi .list [(.var 5)])) [.exp (.met (.var 5) .append [(.call 23 [(.var 2), (.var 6)])]), .exp (.met (.var 5) .append [(.call 23 [(.var 2), (.sub (.var 5) (.neg (.cst (.int 1))))])])], .ite (.not (.bi .all [(.lc false (.call 28 [(.var 6), (.var 4)]) (.name 6) (.seq (.bin .add (.var 5) (.lst false [(.call 22 [(.var 2)])]))) [] [6])])) [.ret (.cst (.bl false))] []],
  .ret (.cmp .eq (.bi .rep [(.lst false [(.glo 32), (.glo 33)])]) (.cst (.str [91, 54, 44, 32, 50, 48, 48, 93])))]
abbrev f_law : FnD := ⟨1, 8, b_law⟩
abbrev n_law : Nat := 29
def fdl : List FnD := [f_is_integer, f_is_name, f_sum_of, f_difference_of, f_is_less, f_is_equal, f_is_expression_within, f_is_expression, f_value_of, f_computed, f_is_part, f_is_instruction, f_entries, f_first_problem, f_is_program, f_law_rng, f_law_draw, f_law_choice, f_law_name, f_law_names, f_law_leaf, f_law_drawn, f_law_odd, f_law_spoilt, f_law_is_tag, f_law_depth, f_law_worth, f_law_told, f_law_right, f_law]
def c_LETTERS : D := (.str [97, 98, 99, 100, 101, 102, 103, 104, 105, 106, 107, 108, 109, 110, 111, 112, 113, 114, 115, 116, 117, 118, 119, 120, 121, 122])
def c_MAX_LETTERS : D := (.int 8)
def c_MAX_DEPTH : D := (.int 6)
def c_MAX_INSTRUCTIONS : D := (.int 200)
def c_MAX_CONSTANT : D := (.int 1000000000000)
def c_NAME : D := (.str [110, 97, 109, 101])
def c_EXPRESSION : D := (.str [101, 120, 112, 114, 101, 115, 115, 105, 111, 110])
def c_BODY : D := (.str [98, 111, 100, 121])
def c_SHAPES : D := (.kdc [([110, 101, 119], (.tup [(.str [110, 97, 109, 101]), (.str [101, 120, 112, 114, 101, 115, 115, 105, 111, 110])])), ([100, 114, 111, 112], (.tup [(.str [110, 97, 109, 101])])), ([114, 101, 115, 105, 122, 101], (.tup [(.str [110, 97, 109, 101]), (.str [101, 120, 112, 114, 101, 115, 115, 105, 111, 110])])), ([115, 116, 111, 114, 101], (.tup [(.str [110, 97, 109, 101]), (.str [101, 120, 112, 114, 101, 115, 115, 105, 111, 110]), (.str [101, 120, 112, 114, 101, 115, 115, 105, 111, 110])])), ([108, 111, 97, 100], (.tup [(.str [110, 97, 109, 101]), (.str [110, 97, 109, 101]), (.str [101, 120, 112, 114, 101, 115, 115, 105, 111, 110])])), ([115, 101, 116], (.tup [(.str [110, 97, 109, 101]), (.str [101, 120, 112, 114, 101, 115, 115, 105, 111, 110])])), ([111, 117, 116], (.tup [(.str [101, 120, 112, 114, 101, 115, 115, 105, 111, 110])])), ([114, 101, 115, 101, 114, 118, 101], (.tup [(.str [101, 120, 112, 114, 101, 115, 115, 105, 111, 110])])), ([105, 102], (.tup [(.str [101, 120, 112, 114, 101, 115, 115, 105, 111, 110]), (.str [98, 111, 100, 121]), (.str [98, 111, 100, 121])])), ([114, 101, 112, 101, 97, 116], (.tup [(.str [101, 120, 112, 114, 101, 115, 115, 105, 111, 110]), (.str [98, 111, 100, 121])])), ([97, 116, 116, 101, 109, 112, 116], (.tup [(.str [98, 111, 100, 121]), (.str [110, 97, 109, 101]), (.str [98, 111, 100, 121])]))])
def c_CALCULATIONS : D := (.kdc [([97, 100, 100], (.glo 2)), ([115, 117, 98], (.glo 3)), ([108, 101, 115, 115], (.glo 4)), ([101, 113, 117, 97, 108], (.glo 5))])
def conl : List D := [c_LETTERS, c_MAX_LETTERS, c_MAX_DEPTH, c_MAX_INSTRUCTIONS, c_MAX_CONSTANT, c_NAME, c_EXPRESSION, c_BODY, c_SHAPES, c_CALCULATIONS]
def xtl : List (List Nat × Option (Nat × List (Sg × Nat))) := [([0], none), ([1, 0], some (1, [([118, 97, 108, 117, 101], 0)])), ([2, 0], some (1, [([118, 97, 108, 117, 101], 0)])), ([3, 0], some (1, [([118, 97, 108, 117, 101], 0)]))]
abbrev x_RoomError : Nat := 40
abbrev x_InvalidNumber : Nat := 41
abbrev x_InvalidName : Nat := 42
abbrev x_InvalidValue : Nat := 43
def pgl : Pg := ⟨fun g => fdl[g]?, fun g => if g < 30 then none else conl[g - 30]?, fun _ _ => false, xinG 40 xtl, xsubG 40 xtl, none⟩
theorem fn0 : pgl.fn 0 = some f_is_integer := rfl
theorem fn1 : pgl.fn 1 = some f_is_name := rfl
theorem fn2 : pgl.fn 2 = some f_sum_of := rfl
theorem fn3 : pgl.fn 3 = some f_difference_of := rfl
theorem fn4 : pgl.fn 4 = some f_is_less := rfl
theorem fn5 : pgl.fn 5 = some f_is_equal := rfl
theorem fn6 : pgl.fn 6 = some f_is_expression_within := rfl
theorem fn7 : pgl.fn 7 = some f_is_expression := rfl
theorem fn8 : pgl.fn 8 = some f_value_of := rfl
theorem fn9 : pgl.fn 9 = some f_computed := rfl
theorem fn10 : pgl.fn 10 = some f_is_part := rfl
theorem fn11 : pgl.fn 11 = some f_is_instruction := rfl
theorem fn12 : pgl.fn 12 = some f_entries := rfl
theorem fn13 : pgl.fn 13 = some f_first_problem := rfl
theorem fn14 : pgl.fn 14 = some f_is_program := rfl
theorem fn15 : pgl.fn 15 = some f_law_rng := rfl
theorem fn16 : pgl.fn 16 = some f_law_draw := rfl
theorem fn17 : pgl.fn 17 = some f_law_choice := rfl
theorem fn18 : pgl.fn 18 = some f_law_name := rfl
theorem fn19 : pgl.fn 19 = some f_law_names := rfl
theorem fn20 : pgl.fn 20 = some f_law_leaf := rfl
theorem fn21 : pgl.fn 21 = some f_law_drawn := rfl
theorem fn22 : pgl.fn 22 = some f_law_odd := rfl
theorem fn23 : pgl.fn 23 = some f_law_spoilt := rfl
theorem fn24 : pgl.fn 24 = some f_law_is_tag := rfl
theorem fn25 : pgl.fn 25 = some f_law_depth := rfl
theorem fn26 : pgl.fn 26 = some f_law_worth := rfl
theorem fn27 : pgl.fn 27 = some f_law_told := rfl
theorem fn28 : pgl.fn 28 = some f_law_right := rfl
theorem fn29 : pgl.fn 29 = some f_law := rfl
theorem con30 : pgl.con 30 = some c_LETTERS := rfl
theorem con31 : pgl.con 31 = some c_MAX_LETTERS := rfl
theorem con32 : pgl.con 32 = some c_MAX_DEPTH := rfl
theorem con33 : pgl.con 33 = some c_MAX_INSTRUCTIONS := rfl
theorem con34 : pgl.con 34 = some c_MAX_CONSTANT := rfl
theorem con35 : pgl.con 35 = some c_NAME := rfl
theorem con36 : pgl.con 36 = some c_EXPRESSION := rfl
theorem con37 : pgl.con 37 = some c_BODY := rfl
theorem con38 : pgl.con 38 = some c_SHAPES := rfl
theorem con39 : pgl.con 39 = some c_CALCULATIONS := rfl
end K83
end
section
namespace K83
open PySem PySem.Spec PyProof.Rows L2 Mi
abbrev prog : Program := PySem.Challenge.pw_exactroom_k83_expressions
def st (i : Nat) : Stmt := prog.main.body.getD i (.Pass ⟨0, 0, 0, 0⟩)
def e_is_integer : DefE := ⟨⟨("is_integer", none), "is_integer", "is_integer", defArgs (st 8), defBody (st 8), defScope (st 8), [], []⟩, ["value"], f_is_integer⟩
theorem k_is_integer : BindOk e_is_integer := fun _ _ _ _ _ _ us hl => match us, hl with | [_], _ => rfl
def e_is_name : DefE := ⟨⟨("is_name", none), "is_name", "is_name", defArgs (st 9), defBody (st 9), defScope (st 9), [], []⟩, ["value", "letter"], f_is_name⟩
theorem k_is_name : BindOk e_is_name := fun _ _ _ _ _ _ us hl => match us, hl with | [_], _ => rfl
def e_sum_of : DefE := ⟨⟨("sum_of", none), "sum_of", "sum_of", defArgs (st 18), defBody (st 18), defScope (st 18), [], []⟩, ["one", "two"], f_sum_of⟩
theorem k_sum_of : BindOk e_sum_of := fun _ _ _ _ _ _ us hl => match us, hl with | [_, _], _ => rfl
def e_difference_of : DefE := ⟨⟨("difference_of", none), "difference_of", "difference_of", defArgs (st 19), defBody (st 19), defScope (st 19), [], []⟩, ["one", "two"], f_difference_of⟩
theorem k_difference_of : BindOk e_difference_of := fun _ _ _ _ _ _ us hl => match us, hl with | [_, _], _ => rfl
def e_is_less : DefE := ⟨⟨("is_less", none), "is_less", "is_less", defArgs (st 20), defBody (st 20), defScope (st 20), [], []⟩, ["one", "two"], f_is_less⟩
theorem k_is_less : BindOk e_is_less := fun _ _ _ _ _ _ us hl => match us, hl with | [_, _], _ => rfl
def e_is_equal : DefE := ⟨⟨("is_equal", none), "is_equal", "is_equal", defArgs (st 21), defBody (st 21), defScope (st 21), [], []⟩, ["one", "two"], f_is_equal⟩
theorem k_is_equal : BindOk e_is_equal := fun _ _ _ _ _ _ us hl => match us, hl with | [_, _], _ => rfl
def e_is_expression_within : DefE := ⟨⟨("is_expression_within", none), "is_expression_within", "is_expression_within", defArgs (st 23), defBody (st 23), defScope (st 23), [], []⟩, ["value", "depth", "word", "one", "two"], f_is_expression_within⟩
theorem k_is_expression_within : BindOk e_is_expression_within := fun _ _ _ _ _ _ us hl => match us, hl with | [_, _], _ => rfl
def e_is_expression : DefE := ⟨⟨("is_expression", none), "is_expression", "is_expression", defArgs (st 24), defBody (st 24), defScope (st 24), [], []⟩, ["value"], f_is_expression⟩
theorem k_is_expression : BindOk e_is_expression := fun _ _ _ _ _ _ us hl => match us, hl with | [_], _ => rfl
def e_value_of : DefE := ⟨⟨("value_of", none), "value_of", "value_of", defArgs (st 25), defBody (st 25), defScope (st 25), [], []⟩, ["expression", "variables"], f_value_of⟩
theorem k_value_of : BindOk e_value_of := fun _ _ _ _ _ _ us hl => match us, hl with | [_, _], _ => rfl
def e_computed : DefE := ⟨⟨("computed", none), "computed", "computed", defArgs (st 26), defBody (st 26), defScope (st 26), [], []⟩, ["expression", "variables", "calculation", "word", "one", "two"], f_computed⟩
theorem k_computed : BindOk e_computed := fun _ _ _ _ _ _ us hl => match us, hl with | [_, _], _ => rfl
def e_is_part : DefE := ⟨⟨("is_part", none), "is_part", "is_part", defArgs (st 27), defBody (st 27), defScope (st 27), [], []⟩, ["kind", "value"], f_is_part⟩
theorem k_is_part : BindOk e_is_part := fun _ _ _ _ _ _ us hl => match us, hl with | [_, _], _ => rfl
def e_is_instruction : DefE := ⟨⟨("is_instruction", none), "is_instruction", "is_instruction", defArgs (st 28), defBody (st 28), defScope (st 28), [], []⟩, ["value", "word", "parts", "kind", "part"], f_is_instruction⟩
theorem k_is_instruction : BindOk e_is_instruction := fun _ _ _ _ _ _ us hl => match us, hl with | [_], _ => rfl
def e_entries : DefE := ⟨⟨("entries", none), "entries", "entries", defArgs (st 29), defBody (st 29), defScope (st 29), [], []⟩, ["path", "body", "index", "one"], f_entries⟩
theorem k_entries : BindOk e_entries := fun _ _ _ _ _ _ us hl => match us, hl with | [_, _], _ => rfl
def e_first_problem : DefE := ⟨⟨("first_problem", none), "first_problem", "first_problem", defArgs (st 30), defBody (st 30), defScope (st 30), [], []⟩, ["value", "pending", "seen", "path", "one", "position", "kind"], f_first_problem⟩
theorem k_first_problem : BindOk e_first_problem := fun _ _ _ _ _ _ us hl => match us, hl with | [_], _ => rfl
def e_is_program : DefE := ⟨⟨("is_program", none), "is_program", "is_program", defArgs (st 31), defBody (st 31), defScope (st 31), [], []⟩, ["value"], f_is_program⟩
theorem k_is_program : BindOk e_is_program := fun _ _ _ _ _ _ us hl => match us, hl with | [_], _ => rfl
def e_law_rng : DefE := ⟨⟨("_law_rng", none), "_law_rng", "_law_rng", defArgs (st 33), defBody (st 33), defScope (st 33), [], []⟩, ["_law_script", "_law_k", "_law_cell"], f_law_rng⟩
theorem k_law_rng : BindOk e_law_rng := fun _ _ _ _ _ _ us hl => match us, hl with | [_, _], _ => rfl
def e_law_draw : DefE := ⟨⟨("_law_draw", none), "_law_draw", "_law_draw", defArgs (st 34), defBody (st 34), defScope (st 34), [], []⟩, ["_law_rng_here", "_law_many", "_law_mixed", "_law_digit"], f_law_draw⟩
theorem k_law_draw : BindOk e_law_draw := fun _ _ _ _ _ _ us hl => match us, hl with | [_, _], _ => rfl
def e_law_choice : DefE := ⟨⟨("_law_choice", none), "_law_choice", "_law_choice", defArgs (st 35), defBody (st 35), defScope (st 35), [], []⟩, ["_law_rng_here", "_law_options"], f_law_choice⟩
theorem k_law_choice : BindOk e_law_choice := fun _ _ _ _ _ _ us hl => match us, hl with | [_, _], _ => rfl
def e_law_name : DefE := ⟨⟨("_law_name", none), "_law_name", "_law_name", defArgs (st 36), defBody (st 36), defScope (st 36), [], []⟩, ["_law_rng_here", "_law_used", "_law_letters", "_law_length", "_law_name_here", "_law_fresh", "_law_k", "_law_one"], f_law_name⟩
theorem k_law_name : BindOk e_law_name := fun _ _ _ _ _ _ us hl => match us, hl with | [_, _], _ => rfl
def e_law_names : DefE := ⟨⟨("_law_names", none), "_law_names", "_law_names", defArgs (st 37), defBody (st 37), defScope (st 37), [], []⟩, ["_law_rng_here", "_law_many", "_law_used", "_law_result", "_law_k"], f_law_names⟩
theorem k_law_names : BindOk e_law_names := fun _ _ _ _ _ _ us hl => match us, hl with | [_, _, _], _ => rfl
def e_law_leaf : DefE := ⟨⟨("_law_leaf", none), "_law_leaf", "_law_leaf", defArgs (st 38), defBody (st 38), defScope (st 38), [], []⟩, ["_law_rng_here", "_law_names_here", "_law_edge", "_law_some"], f_law_leaf⟩
theorem k_law_leaf : BindOk e_law_leaf := fun _ _ _ _ _ _ us hl => match us, hl with | [_, _], _ => rfl
def e_law_drawn : DefE := ⟨⟨("_law_drawn", none), "_law_drawn", "_law_drawn", defArgs (st 39), defBody (st 39), defScope (st 39), [], []⟩, ["_law_rng_here", "_law_names_here", "_law_deep", "_law_parts"], f_law_drawn⟩
theorem k_law_drawn : BindOk e_law_drawn := fun _ _ _ _ _ _ us hl => match us, hl with | [_, _, _], _ => rfl
def e_law_odd : DefE := ⟨⟨("_law_odd", none), "_law_odd", "_law_odd", defArgs (st 40), defBody (st 40), defScope (st 40), [], []⟩, ["_law_rng_here", "_law_some"], f_law_odd⟩
theorem k_law_odd : BindOk e_law_odd := fun _ _ _ _ _ _ us hl => match us, hl with | [_], _ => rfl
def e_law_spoilt : DefE := ⟨⟨("_law_spoilt", none), "_law_spoilt", "_law_spoilt", defArgs (st 41), defBody (st 41), defScope (st 41), [], []⟩, ["_law_rng_here", "_law_value", "_law_at"], f_law_spoilt⟩
theorem k_law_spoilt : BindOk e_law_spoilt := fun _ _ _ _ _ _ us hl => match us, hl with | [_, _], _ => rfl
def e_law_is_tag : DefE := ⟨⟨("_law_is_tag", none), "_law_is_tag", "_law_is_tag", defArgs (st 42), defBody (st 42), defScope (st 42), [], []⟩, ["_law_value", "_law_letters", "_law_sign"], f_law_is_tag⟩
theorem k_law_is_tag : BindOk e_law_is_tag := fun _ _ _ _ _ _ us hl => match us, hl with | [_], _ => rfl
def e_law_depth : DefE := ⟨⟨("_law_depth", none), "_law_depth", "_law_depth", defArgs (st 43), defBody (st 43), defScope (st 43), [], []⟩, ["_law_value"], f_law_depth⟩
theorem k_law_depth : BindOk e_law_depth := fun _ _ _ _ _ _ us hl => match us, hl with | [_], _ => rfl
def e_law_worth : DefE := ⟨⟨("_law_worth", none), "_law_worth", "_law_worth", defArgs (st 44), defBody (st 44), defScope (st 44), [], []⟩, ["_law_value", "_law_numbers", "_law_one", "_law_other"], f_law_worth⟩
theorem k_law_worth : BindOk e_law_worth := fun _ _ _ _ _ _ us hl => match us, hl with | [_, _], _ => rfl
def e_law_told : DefE := ⟨⟨("_law_told", none), "_law_told", "_law_told", defArgs (st 45), defBody (st 45), defScope (st 45), [], []⟩, ["_law_value", "_law_numbers", "_law_told_here", "e"], f_law_told⟩
theorem k_law_told : BindOk e_law_told := fun _ _ _ _ _ _ us hl => match us, hl with | [_, _], _ => rfl
def e_law_right : DefE := ⟨⟨("_law_right", none), "_law_right", "_law_right", defArgs (st 46), defBody (st 46), defScope (st 46), [], []⟩, ["_law_value", "_law_numbers", "_law_due", "_law_turn", "_law_shown", "_law_is_right"], f_law_right⟩
theorem k_law_right : BindOk e_law_right := fun _ _ _ _ _ _ us hl => match us, hl with | [_, _], _ => rfl
def e_law : DefE := ⟨⟨("law", none), "law", "law", defArgs (st 47), defBody (st 47), defScope (st 47), [], []⟩, ["_law_script", "_law_k", "_law_rng_here", "_law_names_here", "_law_numbers", "_law_some", "_law_value", "_law_turn", "_law_name_here"], f_law⟩
theorem k_law : BindOk e_law := fun _ _ _ _ _ _ us hl => match us, hl with | [_], _ => rfl
def cst (i j : Nat) : Stmt := match st i with
  | .ClassDef _ _ _ b _ _ _ _ _ _ _ => b.getD j (.Pass ⟨0, 0, 0, 0⟩)
  | _ => .Pass ⟨0, 0, 0, 0⟩
def i_InvalidNumber : XcI := ⟨"RoomError", ⟨("InvalidNumber", some "__init__"), "__init__", "InvalidNumber.__init__", defArgs (cst 2 0), defBody (cst 2 0), defScope (cst 2 0), [], []⟩, ["self", "value"], 1, [([118, 97, 108, 117, 101], 0)]⟩
theorem ki_InvalidNumber : BindOkI i_InvalidNumber := fun _ _ _ _ _ _ us hl => match us, hl with | [_, _], _ => rfl
def i_InvalidName : XcI := ⟨"RoomError", ⟨("InvalidName", some "__init__"), "__init__", "InvalidName.__init__", defArgs (cst 3 0), defBody (cst 3 0), defScope (cst 3 0), [], []⟩, ["self", "value"], 1, [([118, 97, 108, 117, 101], 0)]⟩
theorem ki_InvalidName : BindOkI i_InvalidName := fun _ _ _ _ _ _ us hl => match us, hl with | [_, _], _ => rfl
def i_InvalidValue : XcI := ⟨"RoomError", ⟨("InvalidValue", some "__init__"), "__init__", "InvalidValue.__init__", defArgs (cst 4 0), defBody (cst 4 0), defScope (cst 4 0), [], []⟩, ["self", "value"], 1, [([118, 97, 108, 117, 101], 0)]⟩
theorem ki_InvalidValue : BindOkI i_InvalidValue := fun _ _ _ _ _ _ us hl => match us, hl with | [_, _], _ => rfl
def md : Md := ⟨[e_is_integer, e_is_name, e_sum_of, e_difference_of, e_is_less, e_is_equal, e_is_expression_within, e_is_expression, e_value_of, e_computed, e_is_part, e_is_instruction, e_entries, e_first_problem, e_is_program, e_law_rng, e_law_draw, e_law_choice, e_law_name, e_law_names, e_law_leaf, e_law_drawn, e_law_odd, e_law_spoilt, e_law_is_tag, e_law_depth, e_law_worth, e_law_told, e_law_right, e_law],
  [(("LETTERS" : Str), (.str [97, 98, 99, 100, 101, 102, 103, 104, 105, 106, 107, 108, 109, 110, 111, 112, 113, 114, 115, 116, 117, 118, 119, 120, 121, 122])),
    (("MAX_LETTERS" : Str), (.int 8)),
    (("MAX_DEPTH" : Str), (.int 6)),
    (("MAX_INSTRUCTIONS" : Str), (.int 200)),
    (("MAX_CONSTANT" : Str), (.int 1000000000000)),
    (("NAME" : Str), (.str [110, 97, 109, 101])),
    (("EXPRESSION" : Str), (.str [101, 120, 112, 114, 101, 115, 115, 105, 111, 110])),
    (("BODY" : Str), (.str [98, 111, 100, 121])),
    (("SHAPES" : Str), (.kdc [([110, 101, 119], (.tup [(.str [110, 97, 109, 101]), (.str [101, 120, 112, 114, 101, 115, 115, 105, 111, 110])])), ([100, 114, 111, 112], (.tup [(.str [110, 97, 109, 101])])), ([114, 101, 115, 105, 122, 101], (.tup [(.str [110, 97, 109, 101]), (.str [101, 120, 112, 114, 101, 115, 115, 105, 111, 110])])), ([115, 116, 111, 114, 101], (.tup [(.str [110, 97, 109, 101]), (.str [101, 120, 112, 114, 101, 115, 115, 105, 111, 110]), (.str [101, 120, 112, 114, 101, 115, 115, 105, 111, 110])])), ([108, 111, 97, 100], (.tup [(.str [110, 97, 109, 101]), (.str [110, 97, 109, 101]), (.str [101, 120, 112, 114, 101, 115, 115, 105, 111, 110])])), ([115, 101, 116], (.tup [(.str [110, 97, 109, 101]), (.str [101, 120, 112, 114, 101, 115, 115, 105, 111, 110])])), ([111, 117, 116], (.tup [(.str [101, 120, 112, 114, 101, 115, 115, 105, 111, 110])])), ([114, 101, 115, 101, 114, 118, 101], (.tup [(.str [101, 120, 112, 114, 101, 115, 115, 105, 111, 110])])), ([105, 102], (.tup [(.str [101, 120, 112, 114, 101, 115, 115, 105, 111, 110]), (.str [98, 111, 100, 121]), (.str [98, 111, 100, 121])])), ([114, 101, 112, 101, 97, 116], (.tup [(.str [101, 120, 112, 114, 101, 115, 115, 105, 111, 110]), (.str [98, 111, 100, 121])])), ([97, 116, 116, 101, 109, 112, 116], (.tup [(.str [98, 111, 100, 121]), (.str [110, 97, 109, 101]), (.str [98, 111, 100, 121])]))])),
    (("CALCULATIONS" : Str), (.kdc [([97, 100, 100], (.glo 2)), ([115, 117, 98], (.glo 3)), ([108, 101, 115, 115], (.glo 4)), ([101, 113, 117, 97, 108], (.glo 5))]))], fun _ _ => false,
  [⟨"RoomError", [0], none⟩, ⟨"InvalidNumber", [1, 0], some i_InvalidNumber⟩, ⟨"InvalidName", [2, 0], some i_InvalidName⟩, ⟨"InvalidValue", [3, 0], some i_InvalidValue⟩], [[118, 97, 108, 117, 101]]⟩
def gl : List (Str × Nat) := [(("is_integer" : Str), 0), (("is_name" : Str), 1), (("sum_of" : Str), 2), (("difference_of" : Str), 3), (("is_less" : Str), 4), (("is_equal" : Str), 5), (("is_expression_within" : Str), 6), (("is_expression" : Str), 7), (("value_of" : Str), 8), (("computed" : Str), 9), (("is_part" : Str), 10), (("is_instruction" : Str), 11), (("entries" : Str), 12), (("first_problem" : Str), 13), (("is_program" : Str), 14), (("_law_rng" : Str), 15), (("_law_draw" : Str), 16), (("_law_choice" : Str), 17), (("_law_name" : Str), 18), (("_law_names" : Str), 19), (("_law_leaf" : Str), 20), (("_law_drawn" : Str), 21), (("_law_odd" : Str), 22), (("_law_spoilt" : Str), 23), (("_law_is_tag" : Str), 24), (("_law_depth" : Str), 25), (("_law_worth" : Str), 26), (("_law_told" : Str), 27), (("_law_right" : Str), 28), (("law" : Str), 29), (("LETTERS" : Str), 30), (("MAX_LETTERS" : Str), 31), (("MAX_DEPTH" : Str), 32), (("MAX_INSTRUCTIONS" : Str), 33), (("MAX_CONSTANT" : Str), 34), (("NAME" : Str), 35), (("EXPRESSION" : Str), 36), (("BODY" : Str), 37), (("SHAPES" : Str), 38), (("CALCULATIONS" : Str), 39), (("RoomError" : Str), 40), (("InvalidNumber" : Str), 41), (("InvalidName" : Str), 42), (("InvalidValue" : Str), 43)]
def fs : List Nat := List.range 30
theorem gl_eq : md.gl = gl := rfl
theorem o_is_integer : md.okD gl fs e_is_integer = true := by kernel_rfl
theorem o_is_name : md.okD gl fs e_is_name = true := by kernel_rfl
theorem o_sum_of : md.okD gl fs e_sum_of = true := by kernel_rfl
theorem o_difference_of : md.okD gl fs e_difference_of = true := by kernel_rfl
theorem o_is_less : md.okD gl fs e_is_less = true := by kernel_rfl
theorem o_is_equal : md.okD gl fs e_is_equal = true := by kernel_rfl
theorem o_is_expression_within : md.okD gl fs e_is_expression_within = true := by kernel_rfl
theorem o_is_expression : md.okD gl fs e_is_expression = true := by kernel_rfl
theorem o_value_of : md.okD gl fs e_value_of = true := by kernel_rfl
theorem o_computed : md.okD gl fs e_computed = true := by kernel_rfl
theorem o_is_part : md.okD gl fs e_is_part = true := by kernel_rfl
theorem o_is_instruction : md.okD gl fs e_is_instruction = true := by kernel_rfl
theorem o_entries : md.okD gl fs e_entries = true := by kernel_rfl
theorem o_first_problem : md.okD gl fs e_first_problem = true := by kernel_rfl
theorem o_is_program : md.okD gl fs e_is_program = true := by kernel_rfl
theorem o_law_rng : md.okD gl fs e_law_rng = true := by kernel_rfl
theorem o_law_draw : md.okD gl fs e_law_draw = true := by kernel_rfl
theorem o_law_choice : md.okD gl fs e_law_choice = true := by kernel_rfl
theorem o_law_name : md.okD gl fs e_law_name = true := by kernel_rfl
theorem o_law_names : md.okD gl fs e_law_names = true := by kernel_rfl
theorem o_law_leaf : md.okD gl fs e_law_leaf = true := by kernel_rfl
theorem o_law_drawn : md.okD gl fs e_law_drawn = true := by kernel_rfl
theorem o_law_odd : md.okD gl fs e_law_odd = true := by kernel_rfl
theorem o_law_spoilt : md.okD gl fs e_law_spoilt = true := by kernel_rfl
theorem o_law_is_tag : md.okD gl fs e_law_is_tag = true := by kernel_rfl
theorem o_law_depth : md.okD gl fs e_law_depth = true := by kernel_rfl
theorem o_law_worth : md.okD gl fs e_law_worth = true := by kernel_rfl
theorem o_law_told : md.okD gl fs e_law_told = true := by kernel_rfl
theorem o_law_right : md.okD gl fs e_law_right = true := by kernel_rfl
theorem o_law : md.okD gl fs e_law = true := by kernel_rfl
theorem ok_all : ∀ e ∈ md.tab, md.okD md.gl fs e = true ∧ BindOk e := by
  rw [gl_eq]
  intro e he
  rcases he with _ | ⟨_, he⟩
  · exact ⟨o_is_integer, k_is_integer⟩
  rcases he with _ | ⟨_, he⟩
  · exact ⟨o_is_name, k_is_name⟩
  rcases he with _ | ⟨_, he⟩
  · exact ⟨o_sum_of, k_sum_of⟩
  rcases he with _ | ⟨_, he⟩
  · exact ⟨o_difference_of, k_difference_of⟩
  rcases he with _ | ⟨_, he⟩
  · exact ⟨o_is_less, k_is_less⟩
  rcases he with _ | ⟨_, he⟩
  · exact ⟨o_is_equal, k_is_equal⟩
  rcases he with _ | ⟨_, he⟩
  · exact ⟨o_is_expression_within, k_is_expression_within⟩
  rcases he with _ | ⟨_, he⟩
  · exact ⟨o_is_expression, k_is_expression⟩
  rcases he with _ | ⟨_, he⟩
  · exact ⟨o_value_of, k_value_of⟩
  rcases he with _ | ⟨_, he⟩
  · exact ⟨o_computed, k_computed⟩
  rcases he with _ | ⟨_, he⟩
  · exact ⟨o_is_part, k_is_part⟩
  rcases he with _ | ⟨_, he⟩
  · exact ⟨o_is_instruction, k_is_instruction⟩
  rcases he with _ | ⟨_, he⟩
  · exact ⟨o_entries, k_entries⟩
  rcases he with _ | ⟨_, he⟩
  · exact ⟨o_first_problem, k_first_problem⟩
  rcases he with _ | ⟨_, he⟩
  · exact ⟨o_is_program, k_is_program⟩
  rcases he with _ | ⟨_, he⟩
  · exact ⟨o_law_rng, k_law_rng⟩
  rcases he with _ | ⟨_, he⟩
  · exact ⟨o_law_draw, k_law_draw⟩
  rcases he with _ | ⟨_, he⟩
  · exact ⟨o_law_choice, k_law_choice⟩
  rcases he with _ | ⟨_, he⟩
  · exact ⟨o_law_name, k_law_name⟩
  rcases he with _ | ⟨_, he⟩
  · exact ⟨o_law_names, k_law_names⟩
  rcases he with _ | ⟨_, he⟩
  · exact ⟨o_law_leaf, k_law_leaf⟩
  rcases he with _ | ⟨_, he⟩
  · exact ⟨o_law_drawn, k_law_drawn⟩
  rcases he with _ | ⟨_, he⟩
  · exact ⟨o_law_odd, k_law_odd⟩
  rcases he with _ | ⟨_, he⟩
  · exact ⟨o_law_spoilt, k_law_spoilt⟩
  rcases he with _ | ⟨_, he⟩
  · exact ⟨o_law_is_tag, k_law_is_tag⟩
  rcases he with _ | ⟨_, he⟩
  · exact ⟨o_law_depth, k_law_depth⟩
  rcases he with _ | ⟨_, he⟩
  · exact ⟨o_law_worth, k_law_worth⟩
  rcases he with _ | ⟨_, he⟩
  · exact ⟨o_law_told, k_law_told⟩
  rcases he with _ | ⟨_, he⟩
  · exact ⟨o_law_right, k_law_right⟩
  rcases he with _ | ⟨_, he⟩
  · exact ⟨o_law, k_law⟩
  · cases he
theorem fs_ok : ∀ k ∈ fs, k < md.tab.length := fun k hk => List.mem_range.mp hk
theorem plain : ∀ e ∈ md.tab, e.d.dfl = [] ∧ e.d.kwd = [] := fun e he => let ⟨_, _, _, a, b, _⟩ := okD_scope (ok_all e he).1; ⟨a, b⟩
theorem oi_InvalidNumber : md.okI i_InvalidNumber = true := by kernel_rfl
theorem oi_InvalidName : md.okI i_InvalidName = true := by kernel_rfl
theorem oi_InvalidValue : md.okI i_InvalidValue = true := by kernel_rfl
theorem okx_all : ∀ e ∈ md.xs, ∀ i, e.ini = some i → md.okI i = true ∧ BindOkI i := by
  intro e he i hi
  rcases he with _ | ⟨_, he⟩
  · cases hi
  rcases he with _ | ⟨_, he⟩
  · cases hi; exact ⟨oi_InvalidNumber, ki_InvalidNumber⟩
  rcases he with _ | ⟨_, he⟩
  · cases hi; exact ⟨oi_InvalidName, ki_InvalidName⟩
  rcases he with _ | ⟨_, he⟩
  · cases hi; exact ⟨oi_InvalidValue, ki_InvalidValue⟩
  · cases he
theorem plainx : ∀ i ∈ md.inis, i.d.dfl = [] ∧ i.d.kwd = [] := by
  intro i hi
  rcases hi with _ | ⟨_, hi⟩
  · exact ⟨rfl, rfl⟩
  rcases hi with _ | ⟨_, hi⟩
  · exact ⟨rfl, rfl⟩
  rcases hi with _ | ⟨_, hi⟩
  · exact ⟨rfl, rfl⟩
  · cases hi
theorem pg_eq : md.pg = pgl := by rw [Md.pg_eq]; rfl
end K83
end
section
namespace K83
open PySem PySem.Spec PyProof.Rows L2 Mi
def names0 : List Str := ["__name__", "RoomError", "InvalidNumber", "InvalidName", "InvalidValue", "LETTERS", "MAX_LETTERS", "is_integer", "is_name", "MAX_DEPTH", "MAX_INSTRUCTIONS", "MAX_CONSTANT", "NAME", "EXPRESSION", "BODY", "SHAPES", "sum_of", "difference_of", "is_less", "is_equal", "CALCULATIONS", "is_expression_within", "is_expression", "value_of", "computed", "is_part", "is_instruction", "entries", "first_problem", "is_program"]
def names1 : List Str := ["_law_rng", "_law_draw", "_law_choice", "_law_name", "_law_names", "_law_leaf", "_law_drawn", "_law_odd", "_law_spoilt", "_law_is_tag", "_law_depth", "_law_worth", "_law_told", "_law_right"]
abbrev names : List Str := names0 ++ names1
abbrev R : PySem.W.OpenRow := PySem.W.OpenLaw.row PySem.Challenge.rw_exactroom_k83_expressions
abbrev hk : PySem.W.Hook := md.hook 4
def ob (s : PySem.W.SharedT) : AlM := md.obsG 4 (HandSHeadRun.getT s)
theorem ob_eq (s : PySem.W.SharedT) : ob s = hk.obs s.abs := Md.obsG_eq (HandSHeadRun.getT_eq s)
theorem run_f (w : World) : (fun w => HandSHeadRun.RunEq R (PySem.W.view R.prog [47]) hk ob 3500 names w) (w.withFollow "special-get-raises" false) := by
  intro os
  kernel_rfl
theorem run_t (w : World) : (fun w => HandSHeadRun.RunEq R (PySem.W.view R.prog [47]) hk ob 3500 names w) (w.withFollow "special-get-raises" true) := by
  intro os
  kernel_rfl
theorem run (w : World) : HandSHeadRun.RunEq R (PySem.W.view R.prog [47]) hk ob 3500 names w := PySem.W.byRow2 "special-get-raises" run_f run_t w
abbrev LV : Nat := 200
/-- what the plain law says -/
def Plain : Prop := ∀ ns : List Int, ns.length ≤ 63 → ∃ S, callF md.pg TURNS LV n_law [.lck (ns.map D.int)] [] = .ok (.bl true) S
end K83
open PySem PySem.W PySem.Calls PyProof.Rows in
theorem K83.close (plainLaw : K83.Plain) : PySem.Challenge.rw_exactroom_k83_expressions.Holds := by
  w_on; o_law
  refine HandSHeadRun.head_any (r := OpenLaw.row PySem.Challenge.rw_exactroom_k83_expressions) (q := view (OpenLaw.row PySem.Challenge.rw_exactroom_k83_expressions).prog [47]) (H := K83.hk) (ob := K83.ob) (M := 3500) (loose := K83.names) (d := HandSHeadRun.topDef (OpenLaw.row PySem.Challenge.rw_exactroom_k83_expressions).prog 47) (kwd := []) K83.ob_eq
    (by kernel_rfl) (fun s => by kernel_rfl) K83.run (by kernel_rfl) (by kernel_rfl) (by kernel_rfl) (by rfl) (by first | assumption | decide +kernel) (by decide +kernel) ⟨rfl, rfl, rfl, rfl, rfl, by decide +kernel⟩ ?hw ?hc
  case hw => w_witness2
  case hc =>
    refine Mi.walkG (l := PySem.Challenge.rw_exactroom_k83_expressions) (n := 63) (k := K83.LV + 2) (x := "_law_script") rfl (by decide) (by kernel_rfl) ⟨rfl, by decide, by decide⟩ ?F
    intro w mg fa h Y G hmg0
    obtain ⟨K, KX, c⟩ := Y
    have hmg : mg ("law" : PySem.Str) = some (.ref fa) := by
      have e : (HandSHeadRun.topDef (OpenLaw.row PySem.Challenge.rw_exactroom_k83_expressions).prog 47).name = ("law" : PySem.Str) := by kernel_rfl
      rw [← e]
      exact hmg0
    exact Mi.endI K83.ok_all K83.fs_ok K83.plain K83.okx_all K83.plainx KX G c (e := K83.e_law) rfl rfl rfl hmg plainLaw
end
section
set_option Elab.async false
set_option linter.all false
set_option maxRecDepth 100000
set_option maxHeartbeats 4000000
namespace K83
open Mi
local macro_rules | `(tactic| simp_arith [$xs,*]) => `(tactic| simp -failIfUnchanged only [evS, evE, evEs, evO, evCs, evI, asg_name, asg_tup, asg_subw, asgs_nil, asgs_cons, alloc_f, alloc_t, allocD_f, allocD_t, asB_bl, stuck_, stuckS_, WpS.cons_, WpS.nil_, WpS.toS_, WpS.rt_, WpS.nx_, WpS.ite_, Wp.bnd_, Wp.ok_, Wp.nox_, Wp.some_, Wp.lift_, Wp.ite_, Wp.tB_, List.map, List.cons_append, List.nil_append, List.replicate, List.getElem?_cons_zero, List.getElem?_cons_succ, Option.bind_some, id, List.set_cons_zero, List.set_cons_succ, Option.some.injEq, exists_eq_left', Bool.false_eq_true, if_true, if_false, if_neg (fun h : False => h), D.int.injEq, D.bl.injEq, D.str.injEq, D.lst.injEq, D.tup.injEq, binOp, cmpOp, ord_op, add_int, int_op, Option.map_some, reduceCtorEq, false_and, exists_false, and_false, List.length_cons, List.length_nil, Nat.reduceAdd, Nat.reduceLT, Nat.reduceLeDiff, Nat.reduceEqDiff, itOf_lst, itOf_tup, itOf_str, len_lst, len_tup, len_str, sub_lst, sub_tup, eq_nil, eq_int, eq_str, le_LIM, wipe, in_tup_str, itEnu_fix, itZip_fix, $xs,*])
/-- the drawn numbers' state, the live lists beside it -/
def Rg (r : Nat) (H : List (Nat × List D)) (S : Mi.St) : Prop := (∃ a b : Int, S[r]? = some (some (.lst [.int a, .int b])) ∧ 0 ≤ a) ∧ ∀ x ∈ H, x.1 ≠ r ∧ S[x.1]? = some (some (.lst x.2))
theorem at0 {a b : D} : atIx [a, b] 0 = some a := rfl
theorem at1 {a b : D} : atIx [a, b] 1 = some b := rfl
theorem ix20 : ixOf 2 0 = some 0 := rfl
theorem ix21 : ixOf 2 1 = some 1 := rfl
theorem Rg.set {r : Nat} {H : List (Nat × List D)} {S : Mi.St} {a b : Int} (h : Rg r H S) (ha : 0 ≤ a) : Rg r H (S.set r (some (.lst [.int a, .int b]))) := by
  obtain ⟨⟨a', b', hr, -⟩, hH⟩ := h
  have hlt : r < S.length := (List.getElem?_eq_some_iff.mp hr).1
  refine ⟨⟨a, b, List.getElem?_set_self hlt, ha⟩, fun x hx => ⟨(hH x hx).1, ?_⟩⟩
  rw [List.getElem?_set_ne (fun e => (hH x hx).1 e.symm)]
  exact (hH x hx).2
theorem draw (lv r : Nat) (H : List (Nat × List D)) (S : Mi.St) (m : Int) (hm : 0 < m) (hm2 : m < P64) (h : Rg r H S) : Wp (callF pgl TURNS (lv + 1) n_law_draw [.ref r, .int m] S) (fun d S' => (∃ k : Int, d = .int k ∧ 0 ≤ k ∧ k < m) ∧ Rg r H S') := by
  have h' := h
  obtain ⟨⟨a, b, hr, ha⟩, hH⟩ := h
  have hlt : r < S.length := (List.getElem?_eq_some_iff.mp hr).1
  have hd : biOp S .divmod [.int a, .int m] = some (.tup [.int (a / m), .int (a % m)]) := by simp only [biOp]; rw [if_pos ⟨hm, hm2⟩]
  refine Wp.call_ fn16 rfl ?_
  by_cases h0 : 0 < a
  · simp_arith [b_law_draw, sub_ref hr, at0, at1, h0, decide_true, hd, set_ref hr, ix20]
    exact ⟨⟨Int.emod_nonneg _ (by omega), Int.emod_lt_of_pos _ hm⟩, h'.set (Int.ediv_nonneg ha (by omega))⟩
  · have p1 : ((b * 48271 + 10007) % 2147483587) < P64 := Int.lt_trans (Int.emod_lt_of_pos _ (by decide)) (by decide)
    have p2 : -P64 < ((b * 48271 + 10007) % 2147483587) := Int.lt_of_lt_of_le (by decide) (Int.emod_nonneg _ (by decide))
    have hr2 : (S.set r (some (.lst [.int a, .int ((b * 48271 + 10007) % 2147483587)])))[r]? = some (some (.lst [.int a, .int ((b * 48271 + 10007) % 2147483587)])) := List.getElem?_set_self hlt
    have hR := h'.set (b := (b * 48271 + 10007) % 2147483587) ha
    simp_arith [b_law_draw, sub_ref hr, at0, at1, h0, decide_false, set_ref hr, ix21, pow20, mul_r (i := b) (j := 48271) (by decide) (by decide), mod_ (j := 2147483587) (by decide), sub_ref hr2, mul_r p2 p1, mod_ (j := 2147483549) (by decide), fdiv_ (j := 11) (by decide) (by decide)]
    by_cases h2 : m < 1048576
    · simp_arith [h2, decide_true, mod_ hm]
      exact ⟨⟨Int.emod_nonneg _ (by omega), Int.emod_lt_of_pos _ hm⟩, hR⟩
    · simp_arith [h2, decide_false, sub_ref hr2, at1, mul_r (j := 2147483563) (by decide) (by decide), mod_ hm]
      exact ⟨⟨Int.emod_nonneg _ (by omega), Int.emod_lt_of_pos _ hm⟩, hR⟩
section
variable {L r : Nat} {H : List (Nat × List D)} {S : Mi.St} {m : Int} {ds : List D}
theorem drawL (hL : 1 ≤ L) (hm : 0 < m) (hm2 : m < P64) (h : Rg r H S) : Wp (callF pgl TURNS L n_law_draw [.ref r, .int m] S) (fun d S' => (∃ k : Int, d = .int k ∧ 0 ≤ k ∧ k < m) ∧ Rg r H S') := by
  obtain ⟨l, rfl⟩ : ∃ l, L = l + 1 := ⟨L - 1, by omega⟩
  exact draw l r H S m hm hm2 h
/-- a body is run -/
theorem callL {P : Pg} {W L g : Nat} {S : Mi.St} {d : FnD} {vs : List D} {Q : D → Mi.St → Prop} (hL : 1 ≤ L) (h : P.fn g = some d) (hl : vs.length = d.ps) (k : WpS (evSs P (callF P W (L - 1)) W d.body (vs.map some ++ List.replicate d.nl none) S) (fun _ S1 => Q .non S1) Q) : Wp (callF P W L g vs S) Q := by
  obtain ⟨l, rfl⟩ : ∃ l, L = l + 1 := ⟨L - 1, by omega⟩
  exact Wp.call_ h hl k
theorem P64' {n : Nat} (h : n ≤ 1000000000) : (n : Int) < P64 := Int.lt_of_le_of_lt (show (n : Int) ≤ 1000000000 by omega) (by decide)
theorem choiceL (hL : 2 ≤ L) (h0 : 0 < ds.length) (h1 : ds.length ≤ 1000000000) (h : Rg r H S) : Wp (callF pgl TURNS L n_law_choice [.ref r, .lst ds] S) (fun d S' => d ∈ ds ∧ Rg r H S') := by
  refine callL (by omega) fn17 rfl ?_
  simp_arith [b_law_choice]
  refine Wp.mono (drawL (by omega) (by omega) (P64' h1) h) ?_
  rintro d S' ⟨⟨k, rfl, h2, h3⟩, hR⟩
  obtain ⟨x, hx, hm⟩ := atIx_in h2 h3
  exact ⟨x, hx, hm, hR⟩
theorem choiceR {q : Nat} (hL : 2 ≤ L) (h0 : 0 < ds.length) (h1 : ds.length ≤ 1000000000) (hq : (q, ds) ∈ H) (h : Rg r H S) : Wp (callF pgl TURNS L n_law_choice [.ref r, .ref q] S) (fun d S' => d ∈ ds ∧ Rg r H S') := by
  refine callL (by omega) fn17 rfl ?_
  have hlen : biOp S .len [.ref q] = some (.int ds.length) := by simp only [biOp, asSeq, asL, (h.2 _ hq).2, Option.map_some]
  simp_arith [b_law_choice, hlen]
  refine Wp.mono (drawL (by omega) (by omega) (P64' h1) h) ?_
  rintro d S' ⟨⟨k, rfl, h2, h3⟩, hR⟩
  obtain ⟨x, hx, hm⟩ := atIx_in h2 h3
  rw [sub_ref (hR.2 _ hq).2]
  exact ⟨x, hx, hm, hR⟩
end
theorem all_of {p : D → Bool} {ds : List D} {d : D} (h : ds.all p = true) (hd : d ∈ ds) : p d = true := List.all_eq_true.mp h d hd
theorem word_of {ds : List D} {d : D} (h : ds.all (fun d => match d with | .str x => wfD 0 (.str x) | _ => false) = true) (hd : d ∈ ds) : ∃ x, d = .str x ∧ ∀ n, Cl n 1 (.str x) := by
  have k := all_of h hd
  cases d with
  | str x => exact ⟨x, rfl, fun n => ⟨wfD_le (Nat.zero_le n) k, Nat.le_refl _⟩⟩
  | _ => cases k
theorem Cl.tup3 {n a b c w : Nat} {x y z : D} (h1 : Cl n a x) (h2 : Cl n b y) (h3 : Cl n c z) (hw : 1 + (a + (b + c)) ≤ w) : Cl (n + 1) w (.tup [x, y, z]) := (Cl.tup (Cls.cons h1 (Cls.cons h2 (Cls.one h3)))).le (Nat.le_refl _) hw
theorem Cl.tup2 {n a b w : Nat} {x y : D} (h1 : Cl n a x) (h2 : Cl n b y) (hw : 1 + (a + b) ≤ w) : Cl (n + 1) w (.tup [x, y]) := (Cl.tup (Cls.cons h1 (Cls.one h2))).le (Nat.le_refl _) hw
theorem Wp.eq {α : Type} {m : Re α} {v : α} {S : Mi.St} (h : Wp m (fun r S' => r = v ∧ S' = S)) : m = .ok v S := by
  obtain ⟨a, S', e, rfl, rfl⟩ := Wp.elim h
  exact e
theorem bok {α β : Type} {a : α} {S : Mi.St} {f : α → Mi.St → Re β} : (Re.ok a S).bnd f = f a S := rfl
theorem comp_map {f : D → M (Option D)} {ds : List D} {S : Mi.St} {g : D → D} (hl : ds.length < TURNS) (h : ∀ x ∈ ds, f x S = .ok (some (g x)) S) : turnsC f (itFix ds) TURNS 0 [] S = .ok (ds.map g) S := by
  rw [turnsC_fix TURNS 0 [] S (Nat.zero_le _) hl, List.drop_zero]
  have k : ∀ (ds acc : List D), (∀ x ∈ ds, f x S = .ok (some (g x)) S) → foldC f ds acc S = .ok (acc ++ ds.map g) S := by
    intro ds
    induction ds with
    | nil => intro acc _; simp [foldC]
    | cons x r ih =>
      intro acc h
      simp only [foldC, h x (List.mem_cons_self ..), bok]
      rw [ih _ fun y hy => h y (List.mem_cons_of_mem _ hy)]
      simp
  simpa using k ds [] h
theorem all_bls {α : Type} {S : Mi.St} {l : List α} {p : α → Bool} : biOp S .all [.lst (l.map fun c => .bl (p c))] = some (.bl (l.all p)) := by
  have e : blsOf (l.map fun c => .bl (p c)) = some (l.map p) := by
    induction l with
    | nil => rfl
    | cons x r ih => simp only [List.map_cons, blsOf, ih, Option.map_some]
  simp only [biOp, asL, Option.bind_some, e, Option.map_some, List.all_map]
  rfl
theorem all_true {S : Mi.St} {l : List D} (h : ∀ d ∈ l, d = .bl true) : biOp S .all [.lst l] = some (.bl true) := by
  have e : blsOf l = some (l.map fun _ => true) := by
    induction l with
    | nil => rfl
    | cons x r ih =>
      rw [h x (List.mem_cons_self ..)]
      simp only [blsOf, ih fun d hd => h d (List.mem_cons_of_mem _ hd), Option.map_some, List.map_cons]
  simp only [biOp, asL, Option.bind_some, e, Option.map_some]
  congr 2
  simp
theorem range_last {n : Nat} {d : D} (h : d ∈ (List.range n).map fun (i : Nat) => D.int (i : Int)) : ∃ i : Nat, i < n ∧ d = .int (i : Int) := by
  simp only [List.mem_map, List.mem_range] at h
  obtain ⟨i, hi, rfl⟩ := h
  exact ⟨i, hi, rfl⟩
abbrev LET : Sg := [97, 98, 99, 100, 101, 102, 103, 104, 105, 106, 107, 108, 109, 110, 111, 112, 113, 114, 115, 116, 117, 118, 119, 120, 121, 122]
theorem p12 : powI 10 12 = some 1000000000000 := by rfl
end K83
end
section
set_option Elab.async false
set_option linter.all false
set_option maxRecDepth 100000
set_option maxHeartbeats 4000000
namespace K83
open Mi
local macro_rules | `(tactic| simp_arith [$xs,*]) => `(tactic| simp -failIfUnchanged only [evS, evE, evEs, evO, evCs, evI, asg_name, asg_tup, asg_subw, asgs_nil, asgs_cons, alloc_f, alloc_t, allocD_f, allocD_t, asB_bl, stuck_, stuckS_, WpS.cons_, WpS.nil_, WpS.toS_, WpS.rt_, WpS.nx_, WpS.ite_, Wp.bnd_, Wp.ok_, Wp.nox_, Wp.some_, Wp.lift_, Wp.ite_, Wp.tB_, List.map, List.cons_append, List.nil_append, List.replicate, List.getElem?_cons_zero, List.getElem?_cons_succ, Option.bind_some, id, List.set_cons_zero, List.set_cons_succ, Option.some.injEq, exists_eq_left', Bool.false_eq_true, if_true, if_false, if_neg (fun h : False => h), D.int.injEq, D.bl.injEq, D.str.injEq, D.lst.injEq, D.tup.injEq, binOp, cmpOp, ord_op, add_int, int_op, Option.map_some, reduceCtorEq, false_and, exists_false, and_false, List.length_cons, List.length_nil, Nat.reduceAdd, Nat.reduceLT, Nat.reduceLeDiff, Nat.reduceEqDiff, itOf_lst, itOf_tup, itOf_str, len_lst, len_tup, len_str, sub_lst, sub_tup, eq_nil, eq_int, eq_str, le_LIM, wipe, in_tup_str, itEnu_fix, itZip_fix, $xs,*])
theorem comp_filter {f : D → M (Option D)} {ds : List D} {S : Mi.St} {p : D → Bool} (hl : ds.length < TURNS) (h : ∀ x ∈ ds, f x S = .ok (if p x then some x else none) S) : turnsC f (itFix ds) TURNS 0 [] S = .ok (ds.filter p) S := by
  rw [turnsC_fix TURNS 0 [] S (Nat.zero_le _) hl, List.drop_zero]
  have k : ∀ (ds acc : List D), (∀ x ∈ ds, f x S = .ok (if p x then some x else none) S) → foldC f ds acc S = .ok (acc ++ ds.filter p) S := by
    intro ds
    induction ds with
    | nil => intro acc _; simp [foldC]
    | cons x r ih =>
      intro acc h
      simp only [foldC, h x (List.mem_cons_self ..), bok]
      cases hp : p x
      · simp only [Bool.false_eq_true, if_false]
        rw [ih _ fun y hy => h y (List.mem_cons_of_mem _ hy)]
        simp [hp]
      · simp only [if_true]
        rw [ih _ fun y hy => h y (List.mem_cons_of_mem _ hy)]
        simp [hp]
  simpa using k ds [] h
theorem pig : ∀ (A B : List Sg), A.Nodup → (∀ x ∈ A, x ∈ B) → A.length ≤ B.length
  | [], B, _, _ => Nat.zero_le _
  | a :: A, B, hn, h => by
    rw [List.nodup_cons] at hn
    have ha := h a (List.mem_cons_self ..)
    have k := pig A (B.erase a) hn.2 fun x hx => (List.mem_erase_of_ne (fun e => by subst e; exact hn.1 hx)).mpr (h x (List.mem_cons_of_mem _ hx))
    have hl := List.length_erase_of_mem ha
    have : 0 < B.length := List.length_pos_of_mem ha
    rw [List.length_cons]; omega
/-- a drawn name -/
def nm (d : D) : Prop := ∃ x : Sg, d = .str x ∧ x.length ≤ 8 ∧ ∀ c ∈ x, c < 65536
theorem nm.cl {d : D} (h : nm d) (n : Nat) : Cl n 1 d := by
  obtain ⟨x, rfl, h1, h2⟩ := h
  refine ⟨?_, by simp [szD]⟩
  simp only [wfD, Bool.and_eq_true, decide_eq_true_eq, List.all_eq_true]
  exact ⟨by omega, h2⟩
theorem let_at {k : Int} (h0 : 0 ≤ k) (h1 : k < 26) : ∃ c, atIx LET k = some c ∧ c < 65536 := by
  obtain ⟨c, h2, h3⟩ := atIx_in (ds := LET) h0 (by simpa using h1)
  refine ⟨c, h2, ?_⟩
  simp only [LET, List.mem_cons, List.not_mem_nil, or_false] at h3
  omega
theorem sub_str {S : Mi.St} {z : Sg} {i : Int} : subOp S (.str z) (.int i) = (atIx z i).map fun c => .str [c] := rfl
/-- the name with the sign k behind -/
def fr (x : Sg) (k : Nat) : Sg := x.take 6 ++ [(LET[k / 26]?).getD 0] ++ [(LET[k % 26]?).getD 0]
def strsD (l : List Sg) : List D := l.map .str
theorem join_len (sep : Sg) (hs : sep = []) : ∀ (l : List Sg), (∀ x ∈ l, x.length = 1) → (joinSg sep l).length = l.length
  | [], _ => rfl
  | [x], h => by simp [joinSg, h x (List.mem_cons_self ..)]
  | x :: y :: r, h => by
    have := join_len sep hs (y :: r) fun z hz => h z (List.mem_cons_of_mem _ hz)
    rw [joinSg, hs, List.append_nil, List.length_append, h x (List.mem_cons_self ..), ← hs, this]
    simp only [List.length_cons]
    omega
theorem join_mem (sep : Sg) (hs : sep = []) : ∀ (l : List Sg) {c : Nat}, c ∈ joinSg sep l → ∃ x ∈ l, c ∈ x
  | [], c, h => by cases h
  | [x], c, h => ⟨x, List.mem_cons_self .., h⟩
  | x :: y :: r, c, h => by
    rw [joinSg, hs, List.append_nil] at h
    rcases List.mem_append.mp h with h | h
    · exact ⟨x, List.mem_cons_self .., h⟩
    · rw [← hs] at h
      obtain ⟨z, hz, hc⟩ := join_mem sep hs (y :: r) h
      exact ⟨z, List.mem_cons_of_mem _ hz, hc⟩
theorem strs_of : ∀ (l : List Sg), strsOf (strsD l) = some l
  | [] => rfl
  | x :: r => by
    show (strsOf (strsD r)).map (x :: ·) = _
    rw [strs_of r]; rfl
theorem sc_strs (l : List Sg) : (strsD l).all scalD = true := by
  rw [List.all_eq_true]
  intro d hd
  obtain ⟨x, -, rfl⟩ := List.mem_map.mp hd
  rfl
theorem in_strs {S : Mi.St} {x : Sg} {l : List Sg} : inOp S (.str x) (.lst (strsD l)) = some (decide (x ∈ l)) := by
  simp only [inOp, sc_strs, scalD, Bool.and_self, if_true]
  congr 1
  rw [Bool.eq_iff_iff]
  simp only [strsD, List.any_map, List.any_eq_true, decide_eq_true_eq, Function.comp, eqD, beq_iff_eq]
  exact ⟨fun ⟨y, hy, e⟩ => e ▸ hy, fun h => ⟨x, h, rfl⟩⟩
theorem fr_nodup (x : Sg) : (((List.range 20).map (fr x))).Nodup := by
  have e : (List.range 20).map (fr x) = ((List.range 20).map fun k => [97, (LET[k]?).getD 0]).map fun y => x.take 6 ++ y := by
    rw [List.map_map]
    refine List.map_congr_left fun k hk => ?_
    have hk : k < 20 := List.mem_range.mp hk
    have e1 : k / 26 = 0 := by omega
    have e2 : k % 26 = k := by omega
    simp only [fr, Function.comp, e1, e2, List.append_assoc]
    rfl
  rw [e]
  have h : ((List.range 20).map fun k => [97, (LET[k]?).getD 0]).Nodup := by decide
  generalize (List.range 20).map (fun k => [97, (LET[k]?).getD 0]) = l at h
  induction l with
  | nil => simp
  | cons a l ih =>
    rw [List.nodup_cons] at h
    rw [List.map_cons, List.nodup_cons]
    refine ⟨?_, ih h.2⟩
    intro hm
    obtain ⟨b, hb, e⟩ := List.mem_map.mp hm
    exact h.1 ((List.append_cancel_left e) ▸ hb)
theorem fr_ok {x : Sg} {k : Nat} (hk : k < 676) (hx : ∀ c ∈ x, c < 65536) : (fr x k).length ≤ 8 ∧ ∀ c ∈ fr x k, c < 65536 := by
  have l1 : ∀ i, i < 26 → (LET[i]?).getD 0 < 65536 := by decide
  refine ⟨by simp only [fr, List.length_append, List.length_take, List.length_cons, List.length_nil]; omega, fun c hc => ?_⟩
  simp only [fr, List.mem_append, List.mem_singleton] at hc
  rcases hc with (hc | rfl) | rfl
  · exact hx c (List.mem_of_mem_take hc)
  · exact l1 _ (by omega)
  · exact l1 _ (by omega)
section
variable {L r : Nat} {H : List (Nat × List D)} {S : Mi.St}
theorem nameTail {x u : Sg} {x3 x6 x7 : Option D} {us : List Sg} (hu : us.length ≤ 10) (hx : x.length ≤ 8) (hc : ∀ c ∈ x, c < 65536) (h : Rg r H S) :
    WpS (evSs pgl (callF pgl TURNS L) TURNS (b_law_name.drop 4) [some (.ref r), some (.lst (strsD us)), some (.str LET), x3, some (.str x), none, x6, x7] S) (fun _ _ => False) (fun d S' => nm d ∧ Rg r H S') := by
  simp_arith [b_law_name, List.drop, rng_one (n := 676) (by decide) (by decide)]
  rw [comp_map (g := fun d => match d with
    | .int k => .str (fr x k.toNat)
    | _ => .non) (by decide)]
  · simp_arith []
    have e : (List.map (fun d => match d with
      | .int k => D.str (fr x k.toNat)
      | _ => .non) (List.map (fun (i : Nat) => D.int (i : Int)) (List.range (Int.toNat 676)))) = strsD ((List.range 676).map (fr x)) := by
      rw [List.map_map, strsD, List.map_map]
      rfl
    rw [e]
    have hadd : addOp S (.lst [D.str x]) (.lst (strsD ((List.range 676).map (fr x)))) = some (.lst (strsD (x :: (List.range 676).map (fr x)))) := add_lst (Nat.le_trans (show _ ≤ 677 by simp [strsD]) (by decide))
    simp_arith [hadd]
    generalize hF : x :: (List.range 676).map (fr x) = F
    have hFl : (strsD F).length < TURNS := by rw [← hF]; exact Nat.lt_of_le_of_lt (show _ ≤ 677 by simp [strsD]) (by decide)
    have hFok : ∀ y ∈ F, y.length ≤ 8 ∧ ∀ c ∈ y, c < 65536 := by
      intro y hy
      rw [← hF] at hy
      rcases List.mem_cons.mp hy with rfl | hy
      · exact ⟨hx, hc⟩
      · obtain ⟨k, hk, rfl⟩ := List.mem_map.mp hy
        exact fr_ok (List.mem_range.mp hk) hc
    rw [comp_filter (p := fun d => match d with
      | .str y => !decide (y ∈ us)
      | _ => false) hFl]
    · simp_arith []
      have ex : ∃ y ∈ F, y ∉ us := by
        apply Classical.byContradiction
        intro hn
        have := pig ((List.range 20).map (fr x)) us (fr_nodup x) fun y hy => by
          apply Classical.byContradiction
          intro h2
          refine hn ⟨y, ?_, h2⟩
          obtain ⟨k, hk, rfl⟩ := List.mem_map.mp hy
          rw [← hF]
          exact List.mem_cons_of_mem _ (List.mem_map.mpr ⟨k, List.mem_range.mpr (by have := List.mem_range.mp hk; omega), rfl⟩)
        simp at this
        omega
      obtain ⟨y, hy, hyu⟩ := ex
      generalize hR : (strsD F).filter (fun d => match d with
        | .str y => !decide (y ∈ us)
        | _ => false) = R
      have hmem : D.str y ∈ R := by
        rw [← hR, List.mem_filter]
        exact ⟨List.mem_map.mpr ⟨y, hy, rfl⟩, by simp [hyu]⟩
      cases R with
      | nil => cases hmem
      | cons a R =>
        refine ⟨a, by rw [show (0 : Int) = ((0 : Nat) : Int) from rfl, atIx_nat]; rfl, ?_, h⟩
        have : a ∈ strsD F := by
          have : a ∈ (strsD F).filter (fun d => match d with
            | .str y => !decide (y ∈ us)
            | _ => false) := by rw [hR]; exact List.mem_cons_self ..
          exact (List.mem_filter.mp this).1
        obtain ⟨z, hz, rfl⟩ := List.mem_map.mp this
        exact ⟨z, rfl, hFok z hz⟩
    · intro d hd
      obtain ⟨y, hy, rfl⟩ := List.mem_map.mp hd
      simp only [evCs, evE, cmpOp, asg_name, wipe, List.getElem?_cons_succ, List.getElem?_cons_zero, List.set_cons_succ, List.set_cons_zero, List.length_cons, List.length_nil, Nat.reduceAdd, Nat.reduceLT, if_true, bok, Re.nox, Option.bind_some, id, lift, in_strs, Option.map_some, tB, asB_bl]
      by_cases hq : y ∈ us
      · simp only [hq, decide_true, Bool.not_true, Bool.false_eq_true, if_false]; rfl
      · simp only [hq, decide_false, Bool.not_false, if_true]; rfl
  · intro d hd
    obtain ⟨k, hk, rfl⟩ := range_last hd
    have hk : k < 676 := hk
    have a1 : atIx LET ((k : Int) / 26) = LET[k / 26]? := by rw [show (k : Int) / 26 = ((k / 26 : Nat) : Int) by omega, atIx_nat]
    have a2 : atIx LET ((k : Int) % 26) = LET[k % 26]? := by rw [show (k : Int) % 26 = ((k % 26 : Nat) : Int) by omega, atIx_nat]
    have g1 : LET[k / 26]? = some ((LET[k / 26]?).getD 0) := by rw [List.getElem?_eq_getElem (show k / 26 < 26 by omega)]; rfl
    have g2 : LET[k % 26]? = some ((LET[k % 26]?).getD 0) := by rw [List.getElem?_eq_getElem (show k % 26 < 26 by omega)]; rfl
    have s1 : slcOp S (.str x) none (some 6) = some (.str (x.take 6)) := by simp only [slcOp]; rw [show (6 : Int) = ((6 : Nat) : Int) from rfl, cut_to]
    have d1 : addOp S (.str (x.take 6)) (.str [(LET[k / 26]?).getD 0]) = some (.str (x.take 6 ++ [(LET[k / 26]?).getD 0])) := if_pos (Nat.le_trans (show _ ≤ 7 by simp only [List.length_take, List.length_cons, List.length_nil]; omega) (by decide))
    have d2 : addOp S (.str (x.take 6 ++ [(LET[k / 26]?).getD 0])) (.str [(LET[k % 26]?).getD 0]) = some (.str (fr x k)) := if_pos (Nat.le_trans (show _ ≤ 8 by simp only [List.length_append, List.length_take, List.length_cons, List.length_nil]; omega) (by decide))
    simp only [evCs, evE, evO, binOp, int_op, fdiv_ (i := (k : Int)) (j := 26) (by decide) (by decide), mod_ (i := (k : Int)) (j := 26) (by decide), sub_str, a1, a2, asg_name, wipe, List.getElem?_cons_succ, List.getElem?_cons_zero, List.set_cons_succ, List.set_cons_zero, List.length_cons, List.length_nil, Nat.reduceAdd, Nat.reduceLT, if_true, bok, Re.nox, Option.bind_some, id, lift, Option.map_some, s1]
    rw [g1, g2]
    simp only [Option.map_some, bok, d1, d2, Option.getD_some]
    rfl
end
end K83
end
section
set_option Elab.async false
set_option linter.all false
set_option maxRecDepth 100000
set_option maxHeartbeats 4000000
namespace K83
open Mi
local macro_rules | `(tactic| simp_arith [$xs,*]) => `(tactic| simp -failIfUnchanged only [evS, evE, evEs, evO, evCs, evI, asg_name, asg_tup, asg_subw, asgs_nil, asgs_cons, alloc_f, alloc_t, allocD_f, allocD_t, asB_bl, stuck_, stuckS_, WpS.cons_, WpS.nil_, WpS.toS_, WpS.rt_, WpS.nx_, WpS.ite_, Wp.bnd_, Wp.ok_, Wp.nox_, Wp.some_, Wp.lift_, Wp.ite_, Wp.tB_, List.map, List.cons_append, List.nil_append, List.replicate, List.getElem?_cons_zero, List.getElem?_cons_succ, Option.bind_some, id, List.set_cons_zero, List.set_cons_succ, Option.some.injEq, exists_eq_left', Bool.false_eq_true, if_true, if_false, if_neg (fun h : False => h), D.int.injEq, D.bl.injEq, D.str.injEq, D.lst.injEq, D.tup.injEq, binOp, cmpOp, ord_op, add_int, int_op, Option.map_some, reduceCtorEq, false_and, exists_false, and_false, List.length_cons, List.length_nil, Nat.reduceAdd, Nat.reduceLT, Nat.reduceLeDiff, Nat.reduceEqDiff, itOf_lst, itOf_tup, itOf_str, len_lst, len_tup, len_str, sub_lst, sub_tup, eq_nil, eq_int, eq_str, le_LIM, wipe, in_tup_str, itEnu_fix, itZip_fix, $xs,*])
def isNameP : D → Bool
  | .str x => decide (1 ≤ (x.length : Int)) && decide ((x.length : Int) ≤ 8) && x.all fun c => LET.contains c
  | _ => false
def isIntP : D → Bool
  | .int _ => true
  | _ => false
section
variable {P : Pg} {S : Mi.St} {n w : Nat} {d : D}
def isIB : D → Bool
  | .int _ => true
  | .bl _ => true
  | _ => false
def isBl : D → Bool
  | .bl _ => true
  | _ => false
theorem isTs_int (h : Cl n w d) : isTs P S d [.bt "int"] = some (isIB d) := by
  have := h.1
  cases d <;> first | rfl | simp [wfD] at this
theorem isTs_bool (h : Cl n w d) : isTs P S d [.bt "bool"] = some (isBl d) := by
  have := h.1
  cases d <;> first | rfl | simp [wfD] at this
end
theorem in_str {S : Mi.St} {c : Nat} {z : Sg} : inOp S (.str [c]) (.str z) = some (z.contains c) := rfl
section
variable {L n w : Nat} {d : D} {S : Mi.St}
theorem isInteger (hL : 1 ≤ L) (hc : Cl n w d) : callF pgl TURNS L n_is_integer [d] S = .ok (.bl (isIntP d)) S := by
  refine Wp.eq (callL hL fn0 rfl ?_)
  simp_arith [b_is_integer, isTs_int hc, isTs_bool hc]
  cases d <;> simp_arith [isIB, isBl, isIntP, Bool.not_false, Bool.not_true] <;> simp
theorem nameComp {x : Sg} {f : D → M (Option D)} (hx : x.length < TURNS) (h : ∀ c ∈ x, f (.str [c]) S = .ok (some (.bl (LET.contains c))) S) : turnsC f (itFix (x.map fun c => .str [c])) TURNS 0 [] S = .ok (x.map fun c => .bl (LET.contains c)) S := by
  rw [comp_map (g := fun d => match d with
    | .str [c] => .bl (LET.contains c)
    | _ => .non) (by rw [List.length_map]; exact hx)]
  · rw [List.map_map]; rfl
  · intro y hy
    obtain ⟨c, hc, rfl⟩ := List.mem_map.mp hy
    exact h c hc
theorem isName (hL : 1 ≤ L) (hc : Cl n w d) : callF pgl TURNS L n_is_name [d] S = .ok (.bl (isNameP d)) S := by
  refine Wp.eq (callL hL fn1 rfl ?_)
  simp_arith [b_is_name, isTs_str hc]
  by_cases hd : ∃ x, d = .str x
  · obtain ⟨x, rfl⟩ := hd
    have hx : x.length < TURNS := by
      have := hc.1
      simp only [wfD, Bool.and_eq_true, decide_eq_true_eq] at this
      exact Nat.lt_of_le_of_lt this.1 (by decide)
    simp_arith [isStr, Bool.not_true, con31, c_MAX_LETTERS, isNameP]
    by_cases h1 : (1 : Int) ≤ x.length
    · by_cases h2 : (x.length : Int) ≤ 8
      · simp_arith [h1, h2, decide_true, Bool.not_true, con30, c_LETTERS]
        rw [nameComp hx fun c _ => rfl]
        simp_arith [all_bls]
        exact ⟨rfl, trivial⟩
      · simp_arith [h1, h2, decide_true, decide_false, Bool.not_false]
        simp
    · simp_arith [h1, decide_true, decide_false, Bool.not_false]
      simp
  · have e : isStr d = false := by cases d <;> first | rfl | exact absurd ⟨_, rfl⟩ hd
    have e2 : isNameP d = false := by cases d <;> first | rfl | exact absurd ⟨_, rfl⟩ hd
    simp_arith [e, e2, Bool.not_false]
    simp
theorem isTag (hL : 1 ≤ L) (hc : Cl n w d) : callF pgl TURNS L n_law_is_tag [d] S = .ok (.bl (isNameP d)) S := by
  refine Wp.eq (callL hL fn24 rfl ?_)
  simp_arith [b_law_is_tag, isTs_str hc]
  by_cases hd : ∃ x, d = .str x
  · obtain ⟨x, rfl⟩ := hd
    have hx : x.length < TURNS := by
      have := hc.1
      simp only [wfD, Bool.and_eq_true, decide_eq_true_eq] at this
      exact Nat.lt_of_le_of_lt this.1 (by decide)
    simp_arith [isStr, isNameP]
    by_cases h1 : (0 : Int) < x.length
    · have h1' : (1 : Int) ≤ x.length := by omega
      by_cases h2 : (x.length : Int) < 9
      · have h2' : (x.length : Int) ≤ 8 := by omega
        simp_arith [h1, h2, h1', h2', decide_true]
        rw [nameComp hx fun c _ => rfl]
        simp_arith [all_bls, Bool.true_and]
        first | exact ⟨rfl, trivial⟩ | simp
      · have h2' : ¬ (x.length : Int) ≤ 8 := by omega
        simp_arith [h1, h2, h1', h2', decide_true, decide_false]
        simp
    · have h1' : ¬ (1 : Int) ≤ x.length := by omega
      simp_arith [h1, h1', decide_true, decide_false]
      simp
  · have e : isStr d = false := by cases d <;> first | rfl | exact absurd ⟨_, rfl⟩ hd
    have e2 : isNameP d = false := by cases d <;> first | rfl | exact absurd ⟨_, rfl⟩ hd
    simp_arith [e, e2]
    simp
def CALC : List Sg := [[97, 100, 100], [115, 117, 98], [108, 101, 115, 115], [101, 113, 117, 97, 108]]
def exprP : Nat → D → Bool
  | 0, _ => false
  | k + 1, d => match d with
    | .int i => decide (i.natAbs ≤ 1000000000000)
    | .str x => isNameP (.str x)
    | .tup [.str w, a, b] => CALC.contains w && (exprP k a && exprP k b)
    | _ => false
theorem abs_ {S : Mi.St} {i : Int} : biOp S .abs [.int i] = some (.int (i.natAbs : Int)) := by
  simp only [biOp]
  congr 2
  split <;> omega
theorem in_kdc {S : Mi.St} {z : Sg} {kvs : List (Sg × D)} : inOp S (.str z) (.kdc kvs) = some (kvs.lookup z).isSome := rfl
theorem calc_in {z : Sg} : (List.lookup z [([97, 100, 100], D.glo 2), ([115, 117, 98], D.glo 3), ([108, 101, 115, 115], D.glo 4), ([101, 113, 117, 97, 108], D.glo 5)]).isSome = CALC.contains z := by
  simp only [CALC, List.lookup, List.contains, List.elem]
  cases z == [97, 100, 100] <;> cases z == [115, 117, 98] <;> cases z == [108, 101, 115, 115] <;> cases z == [101, 113, 117, 97, 108] <;> rfl
theorem len3 {ds : List D} (h : ds.length = 3) : ∃ a b c, ds = [a, b, c] := by
  match ds, h with
  | [a, b, c], _ => exact ⟨a, b, c, rfl⟩
theorem exprCases (d : D) : (∃ i, d = .int i) ∨ (∃ x, d = .str x) ∨ (∃ x a b, d = .tup [.str x, a, b]) ∨ (∃ y a b, d = .tup [y, a, b] ∧ isStr y = false) ∨ (∃ ds, d = .tup ds ∧ ds.length ≠ 3) ∨ (isIntP d = false ∧ isNameP d = false ∧ isStr d = false ∧ isTupP d = false) := by
  cases d with
  | int i => exact .inl ⟨i, rfl⟩
  | str x => exact .inr (.inl ⟨x, rfl⟩)
  | tup ds =>
    by_cases h : ds.length = 3
    · obtain ⟨a, b, c, rfl⟩ := len3 h
      cases a with
      | str x => exact .inr (.inr (.inl ⟨x, b, c, rfl⟩))
      | _ => exact .inr (.inr (.inr (.inl ⟨_, b, c, rfl, rfl⟩)))
    · exact .inr (.inr (.inr (.inr (.inl ⟨ds, rfl, h⟩))))
  | _ => exact .inr (.inr (.inr (.inr (.inr ⟨rfl, rfl, rfl, rfl⟩))))
theorem t33 : (((3 : Nat) : Int) == 3) = true := rfl
theorem ne3 {k : Nat} (h : k ≠ 3) : ((k : Int) == 3) = false := by simp; omega
theorem isExprW : ∀ (k : Nat) {L n w : Nat} {d : D} {S : Mi.St}, k + 2 ≤ L → Cl n w d → callF pgl TURNS L n_is_expression_within [d, .int k] S = .ok (.bl (exprP k d)) S := by
  intro k
  induction k with
  | zero =>
    intro L n w d S hL hc
    refine Wp.eq (callL (by omega) fn6 rfl ?_)
    simp_arith [b_is_expression_within, isInteger (show 1 ≤ L - 1 by omega) hc, isName (show 1 ≤ L - 1 by omega) hc, isTs_tup hc, show decide ((0 : Int) < ((0 : Nat) : Int)) = false from rfl, show decide (((0 : Nat) : Int) < 2) = true from rfl, exprP]
    rcases exprCases d with ⟨i, rfl⟩ | ⟨x, rfl⟩ | ⟨x, a, b, rfl⟩ | ⟨y, a, b, rfl, hy⟩ | ⟨ds, rfl, hd⟩ | ⟨h1, h2, h3, h4⟩
    · simp_arith [isIntP]; simp
    · simp_arith [isIntP, isTupP, Bool.not_false]; simp
    · simp_arith [isIntP, isTupP, isNameP, Bool.not_true]; simp
    · simp_arith [isIntP, isTupP, isNameP, Bool.not_true]; simp
    · simp_arith [isIntP, isTupP, isNameP, Bool.not_true, ne3 hd]; simp
    · simp_arith [h1, h2, h3, h4, Bool.not_false]; simp
  | succ k ih =>
    intro L n w d S hL hc
    refine Wp.eq (callL (by omega) fn6 rfl ?_)
    have e0 : decide ((0 : Int) < ((k + 1 : Nat) : Int)) = true := decide_eq_true (by omega)
    have e1 : ((k + 1 : Nat) : Int) - 1 = (k : Nat) := by omega
    simp_arith [b_is_expression_within, isInteger (show 1 ≤ L - 1 by omega) hc, isName (show 1 ≤ L - 1 by omega) hc, isTs_tup hc, e0, e1]
    rcases exprCases d with ⟨i, rfl⟩ | ⟨x, rfl⟩ | ⟨x, a, b, rfl⟩ | ⟨y, a, b, rfl, hy⟩ | ⟨ds, rfl, hd⟩ | ⟨h1, h2, h3, h4⟩
    · simp_arith [isIntP, con34, c_MAX_CONSTANT, exprP, abs_]
      simp; omega
    · simp_arith [isIntP, isTupP, Bool.not_false, exprP]
      simp
    · obtain ⟨m, v, rfl, rfl, hp⟩ := hc.of_tup
      have ha := hp.mem (d := a) (by simp)
      have hb := hp.mem (d := b) (by simp)
      have hx := hp.mem (d := .str x) (by simp)
      simp_arith [isIntP, isTupP, isNameP, Bool.not_true, t33, con39, c_CALCULATIONS, isTs_str hx, isStr, in_kdc, calc_in, e1, ih (show k + 2 ≤ L - 1 by omega) ha, ih (show k + 2 ≤ L - 1 by omega) hb, exprP]
      by_cases hk : ((k + 1 : Nat) : Int) < 2
      · obtain rfl : k = 0 := by omega
        simp_arith [hk, decide_true, exprP]
        simp
      · simp_arith [hk, decide_false]
        cases CALC.contains x <;> cases exprP k a <;> cases exprP k b <;> simp
    · obtain ⟨m, v, rfl, rfl, hp⟩ := hc.of_tup
      have hy' := hp.mem (d := y) (by simp)
      have e : exprP (k + 1) (.tup [y, a, b]) = false := by cases y <;> first | rfl | cases hy
      simp_arith [isIntP, isTupP, isNameP, Bool.not_true, t33, isTs_str hy', hy, Bool.not_false, e]
      simp
    · have e : exprP (k + 1) (.tup ds) = false := by
        simp only [exprP]
        split
        · rename_i h; cases h
        · rename_i h; cases h
        · rename_i h; cases h; simp at hd
        · rfl
      simp_arith [isIntP, isTupP, isNameP, Bool.not_true, ne3 hd, e]; simp
    · have e : exprP (k + 1) d = false := by cases d <;> first | rfl | exact Bool.noConfusion h1 | exact Bool.noConfusion h3 | exact Bool.noConfusion h4
      simp_arith [h1, h2, h3, h4, Bool.not_false, e]; simp
end
theorem isExpr {L n w : Nat} {d : D} {S : Mi.St} (hL : 9 ≤ L) (hc : Cl n w d) : callF pgl TURNS L n_is_expression [d] S = .ok (.bl (exprP 6 d)) S := by
  refine Wp.eq (callL (by omega) fn7 rfl ?_)
  simp_arith [b_is_expression, con32, c_MAX_DEPTH]
  rw [show (6 : Int) = ((6 : Nat) : Int) from rfl, isExprW 6 (by omega) hc]
  exact ⟨rfl, rfl⟩
end K83
end
section
set_option Elab.async false
set_option linter.all false
set_option maxRecDepth 100000
set_option maxHeartbeats 4000000
namespace K83
open Mi
local macro_rules | `(tactic| simp_arith [$xs,*]) => `(tactic| simp -failIfUnchanged only [evS, evE, evEs, evO, evCs, evI, asg_name, asg_tup, asg_subw, asgs_nil, asgs_cons, alloc_f, alloc_t, allocD_f, allocD_t, asB_bl, stuck_, stuckS_, WpS.cons_, WpS.nil_, WpS.toS_, WpS.rt_, WpS.nx_, WpS.ite_, Wp.bnd_, Wp.ok_, Wp.nox_, Wp.some_, Wp.lift_, Wp.ite_, Wp.tB_, List.map, List.cons_append, List.nil_append, List.replicate, List.getElem?_cons_zero, List.getElem?_cons_succ, Option.bind_some, id, List.set_cons_zero, List.set_cons_succ, Option.some.injEq, exists_eq_left', Bool.false_eq_true, if_true, if_false, if_neg (fun h : False => h), D.int.injEq, D.bl.injEq, D.str.injEq, D.lst.injEq, D.tup.injEq, binOp, cmpOp, ord_op, add_int, int_op, Option.map_some, reduceCtorEq, false_and, exists_false, and_false, List.length_cons, List.length_nil, Nat.reduceAdd, Nat.reduceLT, Nat.reduceLeDiff, Nat.reduceEqDiff, itOf_lst, itOf_tup, itOf_str, len_lst, len_tup, len_str, sub_lst, sub_tup, eq_nil, eq_int, eq_str, le_LIM, wipe, in_tup_str, itEnu_fix, itZip_fix, $xs,*])
def depthF : Nat → D → Nat
  | 0, _ => 100
  | k + 1, d => match d with
    | .int i => if i.natAbs ≤ 1000000000000 then 1 else 100
    | .str x => if isNameP (.str x) then 1 else 100
    | .tup [.str w, a, b] => if CALC.contains w then min 100 (1 + max (depthF k a) (depthF k b)) else 100
    | _ => 100
theorem calc_any {w : Sg} : ([D.str [97, 100, 100], D.str [115, 117, 98], D.str [108, 101, 115, 115], D.str [101, 113, 117, 97, 108]].any fun z => eqD z (.str w)) = CALC.contains w := by
  simp only [List.any, eqD, CALC, List.contains, List.elem]
  rw [Bool.beq_comm (a := w) (b := [97, 100, 100]), Bool.beq_comm (a := w) (b := [115, 117, 98]), Bool.beq_comm (a := w) (b := [108, 101, 115, 115]), Bool.beq_comm (a := w) (b := [101, 113, 117, 97, 108])]
  cases [97, 100, 100] == w <;> cases [115, 117, 98] == w <;> cases [108, 101, 115, 115] == w <;> cases [101, 113, 117, 97, 108] == w <;> rfl
theorem max_ {S : Mi.St} {a b : Nat} : biOp S .max [.int a, .int b] = some (.int ((max a b : Nat) : Int)) := by
  simp only [biOp]
  congr 2
  split <;> omega
theorem at30 {a b c : D} : atIx [a, b, c] 0 = some a := rfl
theorem at31 {a b c : D} : atIx [a, b, c] 1 = some b := rfl
theorem at32 {a b c : D} : atIx [a, b, c] 2 = some c := rfl
theorem min_ {S : Mi.St} {a b : Nat} : biOp S .min [.int (a : Int), .int (b : Int)] = some (.int ((min a b : Nat) : Int)) := by
  simp only [biOp]
  congr 2
  split <;> omega
theorem lawDepth : ∀ (n : Nat) {L w : Nat} {d : D} {S : Mi.St}, n + 3 ≤ L → Cl n w d → callF pgl TURNS L n_law_depth [d] S = .ok (.int (depthF (n + 1) d)) S := by
  intro n
  induction n with
  | zero =>
    intro L w d S hL hc
    refine Wp.eq (callL (by omega) fn25 rfl ?_)
    simp_arith [b_law_depth, isTs_int hc, isTs_bool hc, isTag (show 1 ≤ L - 1 by omega) hc, isTs_tup hc]
    rcases exprCases d with ⟨i, rfl⟩ | ⟨x, rfl⟩ | ⟨x, a, b, rfl⟩ | ⟨y, a, b, rfl, hy⟩ | ⟨ds, rfl, hd⟩ | ⟨h1, h2, h3, h4⟩
    · simp_arith [isIB, isBl, isNameP, Bool.not_false, p12, depthF]
      by_cases ha : (-1000000000000 : Int) ≤ i
      · by_cases hb : i ≤ (1000000000000 : Int)
        · simp_arith [p12, ha, hb, decide_true, show i.natAbs ≤ 1000000000000 by omega]; simp
        · simp_arith [p12, ha, hb, decide_true, decide_false, show ¬ i.natAbs ≤ 1000000000000 by omega]; simp
      · simp_arith [ha, decide_false, show ¬ i.natAbs ≤ 1000000000000 by omega]; simp
    · simp_arith [isIB, isBl, isTupP, depthF, Bool.not_false]
      cases isNameP (.str x) <;> simp_arith [] <;> simp
    · exact absurd hc.1 (by simp [wfD])
    · exact absurd hc.1 (by simp [wfD])
    · exact absurd hc.1 (by simp [wfD])
    · have e : isIB d = true → isBl d = true := by cases d <;> simp [isIB, isBl, isIntP] at h1 ⊢
      have e2 : depthF 1 d = 100 := by cases d <;> first | rfl | exact Bool.noConfusion h1 | exact Bool.noConfusion h3 | exact Bool.noConfusion h4
      cases h5 : isIB d
      · simp_arith [h2, h4, Bool.not_false, e2]; simp
      · simp_arith [e h5, h2, h4, Bool.not_false, Bool.not_true, e2]; simp
  | succ n ih =>
    intro L w d S hL hc
    refine Wp.eq (callL (by omega) fn25 rfl ?_)
    simp_arith [b_law_depth, isTs_int hc, isTs_bool hc, isTag (show 1 ≤ L - 1 by omega) hc, isTs_tup hc]
    rcases exprCases d with ⟨i, rfl⟩ | ⟨x, rfl⟩ | ⟨x, a, b, rfl⟩ | ⟨y, a, b, rfl, hy⟩ | ⟨ds, rfl, hd⟩ | ⟨h1, h2, h3, h4⟩
    · simp_arith [isIB, isBl, isNameP, Bool.not_false, p12, depthF]
      by_cases ha : (-1000000000000 : Int) ≤ i
      · by_cases hb : i ≤ (1000000000000 : Int)
        · simp_arith [p12, ha, hb, decide_true, show i.natAbs ≤ 1000000000000 by omega]; simp
        · simp_arith [p12, ha, hb, decide_true, decide_false, show ¬ i.natAbs ≤ 1000000000000 by omega]; simp
      · simp_arith [ha, decide_false, show ¬ i.natAbs ≤ 1000000000000 by omega]; simp
    · simp_arith [isIB, isBl, isTupP, depthF, Bool.not_false]
      cases isNameP (.str x) <;> simp_arith [] <;> simp
    · obtain ⟨m, v, hm, rfl, hp⟩ := hc.of_tup
      obtain rfl : m = n := by omega
      have ha := hp.mem (d := a) (by simp)
      have hb := hp.mem (d := b) (by simp)
      have hx := hp.mem (d := .str x) (by simp)
      have sc : List.all [D.str [97, 100, 100], D.str [115, 117, 98], D.str [108, 101, 115, 115], D.str [101, 113, 117, 97, 108]] scalD = true := rfl
      have emin : ∀ {S : Mi.St} {k : Nat}, biOp S .min [.int 100, .int (1 + (k : Int))] = some (.int ((min 100 (1 + k) : Nat) : Int)) := fun {S k} => by
        have := min_ (S := S) (a := 100) (b := 1 + k)
        rw [Int.natCast_add] at this
        exact this
      simp_arith [isIB, isTupP, isNameP, Bool.not_true, t33, at30, at31, at32, isTs_str hx, isStr, in_tup_str sc, calc_any]
      rw [depthF]
      cases hq : CALC.contains x
      · simp_arith [Bool.not_false]; simp
      · simp_arith [Bool.not_true, ih (show m + 3 ≤ L - 1 by omega) ha, ih (show m + 3 ≤ L - 1 by omega) hb, max_, emin]
        simp
    · obtain ⟨m, v, hm, rfl, hp⟩ := hc.of_tup
      have hy' := hp.mem (d := y) (by simp)
      have e : depthF (n + 1 + 1) (.tup [y, a, b]) = 100 := by cases y <;> first | rfl | cases hy
      simp_arith [isIB, isTupP, isNameP, Bool.not_true, t33, at30, isTs_str hy', hy, Bool.not_false, e]
      simp
    · have e : depthF (n + 1 + 1) (.tup ds) = 100 := by
        simp only [depthF]
        split
        · rename_i h; cases h
        · rename_i h; cases h
        · rename_i h; cases h; simp at hd
        · rfl
      simp_arith [isIB, isTupP, isNameP, Bool.not_true, ne3 hd, e]; simp
    · have e : isIB d = true → isBl d = true := by cases d <;> simp [isIB, isBl, isIntP] at h1 ⊢
      have e2 : depthF (n + 1 + 1) d = 100 := by cases d <;> first | rfl | exact Bool.noConfusion h1 | exact Bool.noConfusion h3 | exact Bool.noConfusion h4
      cases h5 : isIB d
      · simp_arith [h2, h4, Bool.not_false, e2]; simp
      · simp_arith [e h5, h2, h4, Bool.not_false, Bool.not_true, e2]; simp
theorem depthF_pos (n : Nat) (d : D) : 1 ≤ depthF n d := by
  cases n with
  | zero => simp [depthF]
  | succ n =>
    simp only [depthF]
    split
    · split <;> omega
    · split <;> omega
    · split <;> omega
    · omega
theorem expr_depth : ∀ (n : Nat) {w k : Nat} {d : D}, k ≤ 90 → Cl n w d → exprP k d = decide (depthF (n + 1) d ≤ k) := by
  intro n
  induction n with
  | zero =>
    intro w k d hk hc
    cases k with
    | zero => have := depthF_pos 1 d; simp [exprP]; omega
    | succ k =>
      rcases exprCases d with ⟨i, rfl⟩ | ⟨x, rfl⟩ | ⟨x, a, b, rfl⟩ | ⟨y, a, b, rfl, hy⟩ | ⟨ds, rfl, hd⟩ | ⟨h1, h2, h3, h4⟩
      · simp only [exprP, depthF]; split <;> simp_all <;> omega
      · simp only [exprP, depthF]; by_cases h : isNameP (.str x) = true <;> simp [h] <;> omega
      · exact absurd hc.1 (by simp [wfD])
      · exact absurd hc.1 (by simp [wfD])
      · exact absurd hc.1 (by simp [wfD])
      · have e2 : depthF 1 d = 100 := by cases d <;> first | rfl | exact Bool.noConfusion h1 | exact Bool.noConfusion h3 | exact Bool.noConfusion h4
        have e : exprP (k + 1) d = false := by cases d <;> first | rfl | exact Bool.noConfusion h1 | exact Bool.noConfusion h3 | exact Bool.noConfusion h4
        rw [e, e2]; simp; omega
  | succ n ih =>
    intro w k d hk hc
    cases k with
    | zero => have := depthF_pos (n + 1 + 1) d; simp [exprP]; omega
    | succ k =>
      rcases exprCases d with ⟨i, rfl⟩ | ⟨x, rfl⟩ | ⟨x, a, b, rfl⟩ | ⟨y, a, b, rfl, hy⟩ | ⟨ds, rfl, hd⟩ | ⟨h1, h2, h3, h4⟩
      · simp only [exprP, depthF]; split <;> simp_all <;> omega
      · simp only [exprP, depthF]; by_cases h : isNameP (.str x) = true <;> simp [h] <;> omega
      · obtain ⟨m, v, hm, rfl, hp⟩ := hc.of_tup
        obtain rfl : m = n := by omega
        have ha := hp.mem (d := a) (by simp)
        have hb := hp.mem (d := b) (by simp)
        rw [exprP, depthF]
        rw [ih (by omega) ha, ih (by omega) hb]
        cases CALC.contains x
        · simp; omega
        · simp only [Bool.true_and, if_true]
          rw [← Bool.decide_and]
          congr 1
          apply propext
          omega
      · have e : depthF (n + 1 + 1) (.tup [y, a, b]) = 100 := by cases y <;> first | rfl | cases hy
        have e2 : exprP (k + 1) (.tup [y, a, b]) = false := by cases y <;> first | rfl | cases hy
        rw [e, e2]; simp; omega
      · have e : depthF (n + 1 + 1) (.tup ds) = 100 := by
          simp only [depthF]
          split
          · rename_i h; cases h
          · rename_i h; cases h
          · rename_i h; cases h; simp at hd
          · rfl
        have e2 : exprP (k + 1) (.tup ds) = false := by
          simp only [exprP]
          split
          · rename_i h; cases h
          · rename_i h; cases h
          · rename_i h; cases h; simp at hd
          · rfl
        rw [e, e2]; simp; omega
      · have e2 : depthF (n + 1 + 1) d = 100 := by cases d <;> first | rfl | exact Bool.noConfusion h1 | exact Bool.noConfusion h3 | exact Bool.noConfusion h4
        have e : exprP (k + 1) d = false := by cases d <;> first | rfl | exact Bool.noConfusion h1 | exact Bool.noConfusion h3 | exact Bool.noConfusion h4
        rw [e, e2]; simp; omega
end K83
end
section
set_option Elab.async false
set_option linter.all false
set_option maxRecDepth 100000
set_option maxHeartbeats 4000000
namespace K83
open Mi
local macro_rules | `(tactic| simp_arith [$xs,*]) => `(tactic| simp -failIfUnchanged only [evS, evE, evEs, evO, evCs, evI, asg_name, asg_tup, asg_subw, asgs_nil, asgs_cons, alloc_f, alloc_t, allocD_f, allocD_t, asB_bl, stuck_, stuckS_, WpS.cons_, WpS.nil_, WpS.toS_, WpS.rt_, WpS.nx_, WpS.ite_, Wp.bnd_, Wp.ok_, Wp.nox_, Wp.some_, Wp.lift_, Wp.ite_, Wp.tB_, List.map, List.cons_append, List.nil_append, List.replicate, List.getElem?_cons_zero, List.getElem?_cons_succ, Option.bind_some, id, List.set_cons_zero, List.set_cons_succ, Option.some.injEq, exists_eq_left', Bool.false_eq_true, if_true, if_false, if_neg (fun h : False => h), D.int.injEq, D.bl.injEq, D.str.injEq, D.lst.injEq, D.tup.injEq, binOp, cmpOp, ord_op, add_int, int_op, Option.map_some, reduceCtorEq, false_and, exists_false, and_false, List.length_cons, List.length_nil, Nat.reduceAdd, Nat.reduceLT, Nat.reduceLeDiff, Nat.reduceEqDiff, itOf_lst, itOf_tup, itOf_str, len_lst, len_tup, len_str, sub_lst, sub_tup, eq_nil, eq_int, eq_str, le_LIM, wipe, in_tup_str, itEnu_fix, itZip_fix, $xs,*])
theorem sub_lst' {S : Mi.St} {ds : List D} {i : Int} : subOp S (.lst ds) (.int i) = atIx ds i := (rfl)
abbrev nmS2 : CS := .asg (.name 3) (.sub (.lst false [(.cst (.int 1)), (.cst (.int 1)), (.cst (.int 2)), (.bin .add (.cst (.int 1)) (.call 16 [(.var 0), (.cst (.int 8))]))]) (.call 16 [(.var 0), (.cst (.int 4))]))
abbrev nmS3 : CS := .asg (.name 4) (.met (.cst (.str [])) .join [(.lc false (.sub (.var 2) (.call 16 [(.var 0), (.cst (.int 26))])) (.name 6) (.rng [(.var 3)]) [] [6])])
abbrev nmS4 : CS := .ite (.cmp .eq (.call 16 [(.var 0), (.cst (.int 8))]) (.cst (.int 0))) [.asg (.name 4) (.sub (.lst false [(.cst (.str [114, 101, 113, 117, 101, 115, 116])), (.cst (.str [114, 101, 108, 101, 97, 115, 101])), (.cst (.str [111, 98, 106, 101, 99, 116])), (.cst (.str [99, 101, 108, 108])), (.cst (.str [102, 114, 101, 101])), (.cst (.str [110, 97, 109, 101, 115])), (.cst (.str [115, 101, 116, 116, 108, 101])), (.cst (.str [117, 110, 100, 111]))]) (.call 16 [(.var 0), (.cst (.int 8))]))] []
section
variable {L r : Nat} {H : List (Nat × List D)} {S : Mi.St}
theorem nameL {us : List Sg} (hL : 3 ≤ L) (hu : us.length ≤ 10) (h : Rg r H S) : Wp (callF pgl TURNS L n_law_name [.ref r, .lst (strsD us)] S) (fun d S' => nm d ∧ Rg r H S') := by
  refine callL (by omega) fn18 rfl ?_
  have tail := @nameTail (L - 1) r H
  generalize ht : b_law_name.drop 4 = tl at tail
  have e : b_law_name = .asg (.name 2) (.cst (.str LET)) :: nmS2 :: nmS3 :: nmS4 :: tl := ht ▸ rfl
  simp_arith [e]
  refine Wp.mono (drawL (by omega) (by decide) (by decide) h) ?_
  rintro _ S1 ⟨⟨a, rfl, ha, ha2⟩, h⟩
  simp_arith []
  refine Wp.mono (drawL (by omega) (by decide) (by decide) h) ?_
  rintro _ S1 ⟨⟨b, rfl, hb, hb2⟩, h⟩
  obtain ⟨len, e1, e2⟩ := atIx_in (ds := [D.int 1, .int 1, .int 2, .int (1 + a)]) hb (by simpa using hb2)
  obtain ⟨n, rfl, hn⟩ : ∃ n : Nat, len = .int (n : Int) ∧ n ≤ 8 := by
    simp only [List.mem_cons, List.not_mem_nil, or_false] at e2
    rcases e2 with rfl | rfl | rfl | rfl
    · exact ⟨1, rfl, by decide⟩
    · exact ⟨1, rfl, by decide⟩
    · exact ⟨2, rfl, by decide⟩
    · exact ⟨(1 + a).toNat, by rw [Int.toNat_of_nonneg (by omega)], by omega⟩
  simp_arith []
  refine ⟨_, e1, ?_⟩
  simp_arith [mtPre, rng_one (show (n : Int) ≤ 1000000000 by omega) (show 0 ≤ (n : Int) by omega)]
  refine Wp.turnsC_ (fun rest acc S => Rg r H S ∧ ∃ l, acc = strsD l ∧ (∀ x ∈ l, x.length = 1 ∧ ∀ c ∈ x, c < 65536) ∧ l.length + rest.length ≤ 8) (by simp only [List.length_map, List.length_range]; exact Nat.lt_of_le_of_lt (show _ ≤ 8 by omega) (by decide)) ⟨h, [], rfl, by simp, by simpa using hn⟩ ?_ ?_
  · rintro x rest acc S ⟨h, l, rfl, hl, hlen⟩
    simp_arith []
    refine Wp.mono (drawL (by omega) (by decide) (by decide) h) ?_
    rintro _ S2 ⟨⟨k, rfl, hk, hk2⟩, h⟩
    obtain ⟨c, hc, hc2⟩ := let_at hk hk2
    simp_arith [sub_str, hc]
    refine ⟨h, l ++ [[c]], by simp [strsD], ?_, by simp only [List.length_append, List.length_cons, List.length_nil] at hlen ⊢; omega⟩
    intro x hx
    rcases List.mem_append.mp hx with hx | hx
    · exact hl x hx
    · rw [List.mem_singleton.mp hx]
      exact ⟨rfl, fun d hd => by rw [List.mem_singleton.mp hd]; exact hc2⟩
  · rintro acc S2 ⟨h, l, rfl, hl, hlen⟩
    simp only [List.length_nil] at hlen
    have jl := join_len [] rfl l fun x hx => (hl x hx).1
    have hj : mtOp S2 (.str []) .join [.lst (strsD l)] = some (.str (joinSg [] l), S2) := by
      simp only [mtOp, asL, Option.bind_some, strs_of]
      rw [if_pos (Nat.le_trans (show _ ≤ 8 by rw [jl, List.length_nil]; omega) (by decide))]
    have hjc : ∀ c ∈ joinSg [] l, c < 65536 := fun c hc => by
      obtain ⟨x, hx, hcx⟩ := join_mem [] rfl l hc
      exact (hl x hx).2 c hcx
    simp_arith [hj]
    refine Wp.mono (drawL (by omega) (by decide) (by decide) h) ?_
    rintro _ S1 ⟨⟨c, rfl, hc, hc2⟩, h⟩
    simp_arith []
    split
    · refine Wp.mono (drawL (by omega) (by decide) (by decide) h) ?_
      rintro _ S1 ⟨⟨d, rfl, hd, hd2⟩, h⟩
      obtain ⟨y, e3, e4⟩ := atIx_in (ds := [D.str [114, 101, 113, 117, 101, 115, 116], D.str [114, 101, 108, 101, 97, 115, 101], D.str [111, 98, 106, 101, 99, 116], D.str [99, 101, 108, 108], D.str [102, 114, 101, 101], D.str [110, 97, 109, 101, 115], D.str [115, 101, 116, 116, 108, 101], D.str [117, 110, 100, 111]]) hd (by simpa using hd2)
      have k := all_of (p := fun d => match d with | .str x => decide (x.length ≤ 8) && x.all fun c => decide (c < 65536) | _ => false) (by rfl) e4
      obtain ⟨z, rfl⟩ : ∃ z, y = .str z := by cases y <;> first | exact ⟨_, rfl⟩ | cases k
      simp only [Bool.and_eq_true, decide_eq_true_eq, List.all_eq_true] at k
      simp_arith []
      refine ⟨_, e3, WpS.mono (tail (u := []) hu k.1 k.2 h) (fun _ _ h => h.elim) fun _ _ h => h⟩
    · exact WpS.mono (tail (u := []) hu (by rw [jl]; omega) hjc h) (fun _ _ h => h.elim) fun _ _ h => h
theorem Rg.new {ds : List D} (h : Rg r H S) : Rg r ((S.length, ds) :: H) (S ++ [some (.lst ds)]) := by
  obtain ⟨⟨a, b, hr, ha⟩, hH⟩ := h
  have hlt : r < S.length := (List.getElem?_eq_some_iff.mp hr).1
  refine ⟨⟨a, b, by rw [List.getElem?_append_left hlt]; exact hr, ha⟩, ?_⟩
  intro x hx
  rcases List.mem_cons.mp hx with rfl | hx
  · exact ⟨by show S.length ≠ r; omega, List.getElem?_concat_length⟩
  · have := hH x hx
    exact ⟨this.1, by rw [List.getElem?_append_left (List.getElem?_eq_some_iff.mp this.2).1]; exact this.2⟩
theorem Rg.tail {x : Nat × List D} (h : Rg r (x :: H) S) : Rg r H S := ⟨h.1, fun y hy => h.2 y (List.mem_cons_of_mem _ hy)⟩
theorem Rg.push {q : Nat} {ds es : List D} (h : Rg r ((q, ds) :: H) S) (hH : ∀ x ∈ H, x.1 ≠ q) : Rg r ((q, es) :: H) (S.set q (some (.lst es))) := by
  obtain ⟨⟨a, b, hr, ha⟩, hh⟩ := h
  have hq := hh (q, ds) (List.mem_cons_self ..)
  refine ⟨⟨a, b, by rw [List.getElem?_set_ne hq.1]; exact hr, ha⟩, ?_⟩
  intro x hx
  rcases List.mem_cons.mp hx with rfl | hx
  · exact ⟨hq.1, List.getElem?_set_self (List.getElem?_eq_some_iff.mp hq.2).1⟩
  · have := hh x (List.mem_cons_of_mem _ hx)
    exact ⟨this.1, by rw [List.getElem?_set_ne (Ne.symm (hH x hx))]; exact this.2⟩
theorem append_ {q : Nat} {ds : List D} {v : D} (h : S[q]? = some (some (.lst ds))) (hl : ds.length ≤ 1000) : mtOp S (.ref q) .append [v] = some (.non, S.set q (some (.lst (ds ++ [v])))) := by
  simp only [mtOp, h]
  rw [if_pos (Nat.lt_of_le_of_lt hl (by decide))]
theorem namesL {n : Nat} (hL : 4 ≤ L) (hn : n ≤ 5) (h : Rg r [] S) : Wp (callF pgl TURNS L n_law_names [.ref r, .int (n : Int), .lst []] S) (fun d S' => ∃ q l, d = .ref q ∧ Rg r [(q, strsD l)] S' ∧ l.length = n ∧ ∀ x ∈ strsD l, nm x) := by
  refine callL (by omega) fn19 rfl ?_
  simp_arith [b_law_names, rng_one (show (n : Int) ≤ 1000000000 by omega) (show 0 ≤ (n : Int) by omega)]
  refine WpS.turnsF_ (fun rest e S' => ∃ l x4, e = [some (.ref r), some (.int (n : Int)), some (.lst []), some (.ref S.length), x4] ∧ Rg r [(S.length, strsD l)] S' ∧ l.length + rest.length = n ∧ ∀ x ∈ strsD l, nm x) (by simp only [List.length_map, List.length_range]; exact Nat.lt_of_le_of_lt (show _ ≤ 5 by omega) (by decide)) ⟨[], none, rfl, h.new, by simp, by simp [strsD]⟩ ?_ ?_
  · rintro x rest e S' ⟨l, x4, rfl, h, hl, hx⟩
    simp only [List.length_cons] at hl
    have hq := (h.2 _ (List.mem_cons_self ..)).2
    have hm : ∀ {S' : Mi.St}, Rg r [(S.length, strsD l)] S' → mtPre S' .append (.ref S.length) = true := fun h => by
      have hq := (h.2 _ (List.mem_cons_self ..)).2
      simp only [mtPre, asM, hq, Option.isSome_some]
    have ha : addOp S' (.lst []) (.ref S.length) = some (.lst (strsD l)) := by
      simp only [addOp, asM, hq, Option.bind_some]
      rw [if_pos (Nat.le_trans (show _ ≤ 5 by simp [strsD]; omega) (by decide)), List.nil_append]
    simp_arith [hm h, ha]
    refine Wp.mono (nameL (by omega) (by omega) h) ?_
    rintro d S2 ⟨hd, h⟩
    obtain ⟨y, rfl, hy1, hy2⟩ := hd
    have hq := (h.2 _ (List.mem_cons_self ..)).2
    simp_arith [append_ hq (show _ ≤ 1000 by simp [strsD]; omega)]
    refine ⟨l ++ [y], _, rfl, ?_, by simp only [List.length_append, List.length_cons, List.length_nil]; omega, ?_⟩
    · have := h.push (es := strsD l ++ [.str y]) (by simp)
      simpa [strsD] using this
    · intro x hx'
      simp only [strsD, List.map_append, List.map_cons, List.map_nil, List.mem_append, List.mem_singleton] at hx'
      rcases hx' with hx' | rfl
      · exact hx x hx'
      · exact ⟨y, rfl, hy1, hy2⟩
  · rintro e S' ⟨l, x4, rfl, h, hl, hx⟩
    simp_arith []
    exact ⟨_, l, rfl, h, by simpa using hl, hx⟩
theorem p30 : powI 10 30 = some 1000000000000000000000000000000 := by rfl
theorem leafL {q : Nat} {ns : List D} (hL : 3 ≤ L) (hq : (q, ns) ∈ H) (hn : 0 < ns.length) (hn2 : ns.length ≤ 1000) (hx : ∀ x ∈ ns, nm x) (h : Rg r H S) : Wp (callF pgl TURNS L n_law_leaf [.ref r, .ref q] S) (fun d S' => Cl 0 1 d ∧ Rg r H S') := by
  refine callL (by omega) fn20 rfl ?_
  simp_arith [b_law_leaf, p12, p30]
  refine Wp.mono (choiceL (by omega) (by decide) (by decide) h) ?_
  rintro d S1 ⟨hd, h⟩
  have hd : Cl 0 1 d := by
    have k := all_of (p := fun d => wfD 0 d && decide (szD d ≤ 1)) (by rfl) hd
    simp only [Bool.and_eq_true, decide_eq_true_eq] at k
    exact k
  simp_arith []
  refine Wp.mono (choiceR (by omega) hn (by omega) hq h) ?_
  rintro x S1 ⟨hx1, h⟩
  refine Wp.mono (choiceR (by omega) hn (by omega) hq h) ?_
  rintro y S1 ⟨hy1, h⟩
  refine Wp.mono (drawL (by omega) (by decide) (by decide) h) ?_
  rintro _ S1 ⟨⟨a, rfl, ha, ha2⟩, h⟩
  simp_arith [p12]
  refine Wp.mono (drawL (by omega) (by decide) (by decide) h) ?_
  rintro _ S1 ⟨⟨b, rfl, hb, hb2⟩, h⟩
  simp_arith []
  refine Wp.mono (drawL (by omega) (by decide) (by decide) h) ?_
  rintro _ S1 ⟨⟨c, rfl, hc, hc2⟩, h⟩
  simp_arith []
  split
  · exact ⟨hd, h⟩
  · refine Wp.mono (choiceL (by omega) (by simp) (by simp) h) ?_
    rintro z S1 ⟨hz, h⟩
    refine ⟨?_, h⟩
    simp only [List.mem_cons, List.not_mem_nil, or_false] at hz
    rcases hz with rfl | rfl | rfl | rfl
    · exact (hx _ hx1).cl 0
    · exact (hx _ hy1).cl 0
    · exact Cl.int (by omega) (Nat.le_refl _)
    · exact Cl.int (by omega) (Nat.le_refl _)
theorem drawnL {q : Nat} {ns : List D} (hq : (q, ns) ∈ H) (hn : 0 < ns.length) (hn2 : ns.length ≤ 1000) (hx : ∀ x ∈ ns, nm x) : ∀ (k : Nat) {L : Nat} {S : Mi.St}, k + 4 ≤ L → k ≤ 10 → Rg r H S → Wp (callF pgl TURNS L n_law_drawn [.ref r, .ref q, .int (k : Int)] S) (fun d S' => Cl k (3 ^ k) d ∧ Rg r H S') := by
  intro k
  induction k using Nat.strongRecOn with
  | ind k ih =>
  intro L S hL hk10 h
  refine callL (by omega) fn21 rfl ?_
  by_cases h2 : (k : Int) < 2
  · simp_arith [b_law_drawn, h2, decide_true]
    refine Wp.mono (leafL (by omega) hq hn hn2 hx h) ?_
    rintro d S1 ⟨hd, h⟩
    exact ⟨hd.le (Nat.zero_le _) (Nat.one_le_pow _ _ (by decide)), h⟩
  · have e1 : (k : Int) - 1 = ((k - 1 : Nat) : Int) := by omega
    have hmin : ∀ S, biOp S .min [.int 2, .int ((k - 1 : Nat) : Int)] = some (.int ((min 2 (k - 1) : Nat) : Int)) := fun S => by
      simp only [biOp]
      congr 2
      split <;> omega
    simp_arith [b_law_drawn, h2, decide_false, e1, hmin]
    refine Wp.mono (ih (k - 1) (by omega) (by omega) (by omega) h) ?_
    rintro x S1 ⟨hx1, h⟩
    refine Wp.mono (drawL (by omega) (by omega) (P64' (by omega)) h) ?_
    rintro _ S1 ⟨⟨a, rfl, ha, ha2⟩, h⟩
    obtain ⟨a, rfl⟩ := Int.eq_ofNat_of_zero_le ha
    have e2 : 1 + (a : Int) = ((1 + a : Nat) : Int) := by omega
    simp_arith [e2]
    refine Wp.mono (ih (1 + a) (by omega) (by omega) (by omega) h) ?_
    rintro y S1 ⟨hy1, h⟩
    replace hy1 : Cl (k - 1) (3 ^ (k - 1)) y := hy1.le (by omega) (Nat.pow_le_pow_right (by decide) (by omega))
    simp_arith []
    refine Wp.mono (drawL (by omega) (by decide) (by decide) h) ?_
    rintro _ S1 ⟨⟨c, rfl, hc, hc2⟩, h⟩
    have fin : ∀ {x y : D} {S : Mi.St}, Cl (k - 1) (3 ^ (k - 1)) x → Cl (k - 1) (3 ^ (k - 1)) y → Rg r H S → ∀ {w : Sg}, (∀ n, Cl n 1 (.str w)) → Cl k (3 ^ k) (.tup [.str w, x, y]) := by
      intro x y S hx hy h w hw
      obtain ⟨j, rfl⟩ : ∃ j, k = j + 1 := ⟨k - 1, by omega⟩
      refine Cl.tup3 (hw j) hx hy ?_
      have : 3 ^ 1 ≤ 3 ^ j := Nat.pow_le_pow_right (by decide) (by omega)
      rw [Nat.pow_succ, show j + 1 - 1 = j from rfl]; omega
    simp_arith []
    split
    · simp_arith [asL, List.reverse_cons, List.reverse_nil]
      refine Wp.mono (choiceL (by omega) (by decide) (by decide) h) ?_
      rintro w S2 ⟨hw, h⟩
      obtain ⟨w, rfl, hw'⟩ := word_of (by rfl) hw
      simp_arith [at0, at1]
      exact ⟨fin hy1 hx1 h hw', h⟩
    · refine Wp.mono (choiceL (by omega) (by decide) (by decide) h) ?_
      rintro w S2 ⟨hw, h⟩
      obtain ⟨w, rfl, hw'⟩ := word_of (by rfl) hw
      simp_arith [at0, at1]
      exact ⟨fin hx1 hy1 h hw', h⟩
theorem oddL (hL : 3 ≤ L) (h : Rg r H S) : Wp (callF pgl TURNS L n_law_odd [.ref r] S) (fun d S' => Cl 2 5 d ∧ Rg r H S') := by
  refine callL (by omega) fn22 rfl ?_
  have d0 : dspOf [] = some [] := rfl
  simp_arith [b_law_odd, d0, mergeD, List.foldl, add_lst]
  refine Wp.mono (choiceL (by omega) (by decide) (by decide) h) ?_
  rintro d S1 ⟨hd, h⟩
  refine ⟨?_, h⟩
  have k := all_of (p := fun d => wfD 2 d && decide (szD d ≤ 5)) (by rfl) hd
  simp only [Bool.and_eq_true, decide_eq_true_eq] at k
  exact k
end
end K83
end
section
set_option Elab.async false
set_option linter.all false
set_option maxRecDepth 100000
set_option maxHeartbeats 4000000
namespace K83
open Mi
local macro_rules | `(tactic| simp_arith [$xs,*]) => `(tactic| simp -failIfUnchanged only [evS, evE, evEs, evO, evCs, evI, asg_name, asg_tup, asg_subw, asgs_nil, asgs_cons, alloc_f, alloc_t, allocD_f, allocD_t, asB_bl, stuck_, stuckS_, WpS.cons_, WpS.nil_, WpS.toS_, WpS.rt_, WpS.nx_, WpS.ite_, Wp.bnd_, Wp.ok_, Wp.nox_, Wp.some_, Wp.lift_, Wp.ite_, Wp.tB_, List.map, List.cons_append, List.nil_append, List.replicate, List.getElem?_cons_zero, List.getElem?_cons_succ, Option.bind_some, id, List.set_cons_zero, List.set_cons_succ, Option.some.injEq, exists_eq_left', Bool.false_eq_true, if_true, if_false, if_neg (fun h : False => h), D.int.injEq, D.bl.injEq, D.str.injEq, D.lst.injEq, D.tup.injEq, binOp, cmpOp, ord_op, add_int, int_op, Option.map_some, reduceCtorEq, false_and, exists_false, and_false, List.length_cons, List.length_nil, Nat.reduceAdd, Nat.reduceLT, Nat.reduceLeDiff, Nat.reduceEqDiff, itOf_lst, itOf_tup, itOf_str, len_lst, len_tup, len_str, sub_lst, sub_tup, eq_nil, eq_int, eq_str, le_LIM, wipe, in_tup_str, itEnu_fix, itZip_fix, $xs,*])
section
variable {r : Nat} {H : List (Nat × List D)}
theorem spoiltL : ∀ (n : Nat) {L w : Nat} {d : D} {S : Mi.St}, n + 6 ≤ L → Cl n w d → w ≤ 900000 → Rg r H S → Wp (callF pgl TURNS L n_law_spoilt [.ref r, d] S) (fun x S' => Cl (n + 3) (szD d + 6) x ∧ Rg r H S') := by
  intro n
  induction n with
  | zero =>
    intro L w d S hL hc hw h
    refine callL (by omega) fn23 rfl ?_
    have hT : isTupP d = false := by
      have := hc.1
      cases d <;> first | rfl | simp [wfD] at this
    simp_arith [b_law_spoilt, isTs_tup hc, hT, Bool.not_false]
    refine Wp.mono (oddL (by omega) h) ?_
    rintro o S1 ⟨ho, h⟩
    exact ⟨ho.le (by omega) (by omega), h⟩
  | succ n ih =>
    intro L w d S hL hc hw h
    refine callL (by omega) fn23 rfl ?_
    have odd : ∀ {S : Mi.St}, Rg r H S → Wp (callF pgl TURNS (L - 1) n_law_odd [.ref r] S) (fun x S' => Cl (n + 1 + 3) (szD d + 6) x ∧ Rg r H S') := fun h => Wp.mono (oddL (by omega) h) fun d S' ⟨a, b⟩ => ⟨a.le (by omega) (by omega), b⟩
    by_cases hT : ∃ a b c, d = .tup [a, b, c]
    · obtain ⟨a, b, c, rfl⟩ := hT
      have hsz : szD (.tup [a, b, c]) = 1 + (szD a + (szD b + szD c)) := by simp [szD, szDs]
      obtain ⟨m, v, hm, rfl, hp⟩ := hc.of_tup
      obtain rfl : m = n := by omega
      have hpa := hp.mem (d := a) (by simp)
      have hpb := hp.mem (d := b) (by simp)
      have hpc := hp.mem (d := c) (by simp)
      simp_arith [b_law_spoilt, isTs_tup hc, isTupP, Bool.not_true, show (((3 : Nat) : Int) == 3) = true from rfl]
      have h3 : szD a + (szD b + szD c) ≤ 900000 := by have := hc.2; omega
      refine Wp.mono (drawL (by omega) (by decide) (by decide) h) ?_
      rintro _ S1 ⟨⟨k, rfl, hk, hk2⟩, h⟩
      simp_arith []
      split
      · exact odd h
      · refine Wp.mono (drawL (by omega) (by decide) (by decide) h) ?_
        rintro _ S1 ⟨⟨j, rfl, hj, hj2⟩, h⟩
        simp_arith []
        have up : ∀ {x : D}, Cl m (v : Nat) x → Cl (m + 3) (szD x) x := fun h => ⟨wfD_le (by omega) h.1, Nat.le_refl _⟩
        have hj : j = 0 ∨ j = 1 ∨ j = 2 := by omega
        rcases hj with rfl | rfl | rfl
        · simp_arith [show ((0 : Int) == 0) = true from rfl]
          refine Wp.mono (oddL (by omega) h) ?_
          rintro o S1 ⟨ho, h⟩
          have s1 : slcOp S1 (.tup [a, b, c]) (some 1) none = some (.tup [b, c]) := rfl
          simp_arith [s1]
          refine ⟨.tup [o, b, c], add_tup (Nat.le_trans (show _ ≤ 3 by simp) (by decide)), ?_, h⟩
          exact Cl.tup3 (n := m + 3) (ho.le (by omega) (Nat.le_refl _)) (up hpb) (up hpc) (by have := szD_pos a; omega)
        · have s1 : ∀ S, slcOp S (.tup [a, b, c]) none (some 1) = some (.tup [a]) := fun _ => rfl
          have s2 : ∀ S, slcOp S (.tup [a, b, c]) (some (1 + 1)) none = some (.tup [c]) := fun _ => rfl
          simp_arith [show ((1 : Int) == 0) = false from rfl, s1, s2, show atIx [a, b, c] 1 = some b from rfl]
          refine Wp.mono (ih (by omega) hpb (by omega) h) ?_
          rintro o S1 ⟨ho, h⟩
          simp_arith []
          refine ⟨.tup [a, o], add_tup (Nat.le_trans (show _ ≤ 3 by simp) (by decide)), ?_⟩
          simp_arith [s2]
          refine ⟨.tup [a, o, c], add_tup (Nat.le_trans (show _ ≤ 3 by simp) (by decide)), ?_, h⟩
          exact Cl.tup3 (n := m + 3) (up hpa) ho (up hpc) (by omega)
        · have s1 : ∀ S, slcOp S (.tup [a, b, c]) none (some 2) = some (.tup [a, b]) := fun _ => rfl
          have s2 : ∀ S, slcOp S (.tup [a, b, c]) (some (2 + 1)) none = some (.tup []) := fun _ => rfl
          simp_arith [show ((2 : Int) == 0) = false from rfl, s1, s2, show atIx [a, b, c] 2 = some c from rfl]
          refine Wp.mono (ih (by omega) hpc (by omega) h) ?_
          rintro o S1 ⟨ho, h⟩
          simp_arith []
          refine ⟨.tup [a, b, o], add_tup (Nat.le_trans (show _ ≤ 3 by simp) (by decide)), ?_⟩
          simp_arith [s2]
          refine ⟨.tup [a, b, o], add_tup (Nat.le_trans (show _ ≤ 3 by simp) (by decide)), ?_, h⟩
          exact Cl.tup3 (n := m + 3) (up hpa) (up hpb) ho (by omega)
    · by_cases hT2 : ∃ ds, d = .tup ds
      · obtain ⟨ds, rfl⟩ := hT2
        have hl : ds.length ≠ 3 := fun h => hT (by
          match ds, h with
          | [a, b, c], _ => exact ⟨a, b, c, rfl⟩)
        have e : ((ds.length : Int) == 3) = false := by simp; omega
        simp_arith [b_law_spoilt, isTs_tup hc, isTupP, Bool.not_true, e, Bool.not_false]
        exact odd h
      · have e : isTupP d = false := by cases d <;> first | rfl | exact absurd ⟨_, rfl⟩ hT2
        simp_arith [b_law_spoilt, isTs_tup hc, e, Bool.not_false]
        exact odd h
end
end K83
end
section
set_option Elab.async false
set_option linter.all false
set_option maxRecDepth 100000
set_option maxHeartbeats 4000000
namespace K83
open Mi
local macro_rules | `(tactic| simp_arith [$xs,*]) => `(tactic| simp -failIfUnchanged only [evS, evE, evEs, evO, evCs, evI, asg_name, asg_tup, asg_subw, asgs_nil, asgs_cons, alloc_f, alloc_t, allocD_f, allocD_t, asB_bl, stuck_, stuckS_, WpS.cons_, WpS.nil_, WpS.toS_, WpS.rt_, WpS.nx_, WpS.ite_, Wp.bnd_, Wp.ok_, Wp.nox_, Wp.some_, Wp.lift_, Wp.ite_, Wp.tB_, List.map, List.cons_append, List.nil_append, List.replicate, List.getElem?_cons_zero, List.getElem?_cons_succ, Option.bind_some, id, List.set_cons_zero, List.set_cons_succ, Option.some.injEq, exists_eq_left', Bool.false_eq_true, if_true, if_false, if_neg (fun h : False => h), D.int.injEq, D.bl.injEq, D.str.injEq, D.lst.injEq, D.tup.injEq, binOp, cmpOp, ord_op, add_int, int_op, Option.map_some, reduceCtorEq, false_and, exists_false, and_false, List.length_cons, List.length_nil, Nat.reduceAdd, Nat.reduceLT, Nat.reduceLeDiff, Nat.reduceEqDiff, itOf_lst, itOf_tup, itOf_str, len_lst, len_tup, len_str, sub_lst, sub_tup, eq_nil, eq_int, eq_str, le_LIM, wipe, in_tup_str, itEnu_fix, itZip_fix, $xs,*])
def intD : D → Int
  | .int i => i
  | _ => 0
def ADD : Sg := [97, 100, 100]
def SUB : Sg := [115, 117, 98]
def LESS : Sg := [108, 101, 115, 115]
def EQ : Sg := [101, 113, 117, 97, 108]
def calcV (w : Sg) (x y : Int) : Int := if w == ADD then x + y else if w == SUB then x - y else if w == LESS then (if decide (x < y) then 1 else 0) else (if x == y then 1 else 0)
def valP (kvs : List (D × D)) : Nat → D → Int
  | 0, _ => 0
  | k + 1, d => match d with
    | .int i => i
    | .str x => intD ((getD kvs (.str x)).getD (.int 0))
    | .tup [.str w, a, b] => calcV w (valP kvs k a) (valP kvs k b)
    | _ => 0
def NumOK (kvs : List (D × D)) : Prop := kvs.length ≤ 4 ∧ ∀ p ∈ kvs, ∃ x i, p = (.str x, .int i) ∧ nm (.str x) ∧ -1000 ≤ i ∧ i ≤ 1000
theorem num_get {kvs : List (D × D)} {x : Sg} (h : NumOK kvs) : ∃ i, (getD kvs (.str x)).getD (.int 0) = .int i ∧ -1000 ≤ i ∧ i ≤ 1000 := by
  have k : ∀ (l : List (D × D)), (∀ p ∈ l, ∃ x i, p = (D.str x, D.int i) ∧ nm (.str x) ∧ -1000 ≤ i ∧ i ≤ 1000) → ∃ i, (getD l (.str x)).getD (.int 0) = .int i ∧ -1000 ≤ i ∧ i ≤ 1000 := by
    intro l
    induction l with
    | nil => exact fun _ => ⟨0, rfl, by decide, by decide⟩
    | cons p r ih =>
      intro h
      obtain ⟨y, i, rfl, hy, h1, h2⟩ := h p (List.mem_cons_self ..)
      simp only [getD]
      cases eqD (.str y) (.str x)
      · exact ih fun q hq => h q (List.mem_cons_of_mem _ hq)
      · exact ⟨i, rfl, h1, h2⟩
  exact k kvs h.2
theorem calc_cases {w : Sg} (h : CALC.contains w = true) : w = ADD ∨ w = SUB ∨ w = LESS ∨ w = EQ := by
  simpa [CALC, ADD, SUB, LESS, EQ] using h
section
variable {L : Nat} {S : Mi.St} {x y : Int} {kvs : List (D × D)}
theorem sumF (hL : 1 ≤ L) : callF pgl TURNS L 2 [.int x, .int y] S = .ok (.int (x + y)) S := by
  refine Wp.eq (callL hL fn2 rfl ?_)
  simp_arith [b_sum_of]; simp
theorem difF (hL : 1 ≤ L) : callF pgl TURNS L 3 [.int x, .int y] S = .ok (.int (x - y)) S := by
  refine Wp.eq (callL hL fn3 rfl ?_)
  simp_arith [b_difference_of]; simp
theorem int_bl {b : Bool} : biOp S .int [.bl b] = some (.int (if b then 1 else 0)) := rfl
theorem lesF (hL : 1 ≤ L) : callF pgl TURNS L 4 [.int x, .int y] S = .ok (.int (if decide (x < y) then 1 else 0)) S := by
  refine Wp.eq (callL hL fn4 rfl ?_)
  simp_arith [b_is_less, int_bl]; simp
theorem equF (hL : 1 ≤ L) : callF pgl TURNS L 5 [.int x, .int y] S = .ok (.int (if x == y then 1 else 0)) S := by
  refine Wp.eq (callL hL fn5 rfl ?_)
  simp_arith [b_is_equal, int_bl]; simp
theorem get2_ {x : Sg} {S : Mi.St} : mtOp S (.dct kvs) .get2 [.str x, .int 0] = some ((getD kvs (.str x)).getD (.int 0), S) := rfl
theorem intD_ {d : D} {i : Int} (h : d = .int i) : d = .int (intD d) := by rw [h]; rfl
theorem exprTrue {k : Nat} {d : D} (h : exprP (k + 1) d = true) : (∃ i, d = .int i) ∨ (∃ x, d = .str x) ∨ (∃ w a b, d = .tup [.str w, a, b] ∧ (w = ADD ∨ w = SUB ∨ w = LESS ∨ w = EQ) ∧ exprP k a = true ∧ exprP k b = true) := by
  rcases exprCases d with ⟨i, rfl⟩ | ⟨x, rfl⟩ | ⟨x, a, b, rfl⟩ | ⟨y, a, b, rfl, hy⟩ | ⟨ds, rfl, hd⟩ | ⟨h1, h2, h3, h4⟩
  · exact .inl ⟨i, rfl⟩
  · exact .inr (.inl ⟨x, rfl⟩)
  · simp only [exprP, Bool.and_eq_true] at h
    exact .inr (.inr ⟨x, a, b, rfl, calc_cases h.1, h.2.1, h.2.2⟩)
  · have e : exprP (k + 1) (.tup [y, a, b]) = false := by cases y <;> first | rfl | cases hy
    rw [e] at h; cases h
  · have e : exprP (k + 1) (.tup ds) = false := by
      simp only [exprP]
      split
      · rename_i h; cases h
      · rename_i h; cases h
      · rename_i h; cases h; simp at hd
      · rfl
    rw [e] at h; cases h
  · have e : exprP (k + 1) d = false := by cases d <;> first | rfl | exact Bool.noConfusion h1 | exact Bool.noConfusion h3 | exact Bool.noConfusion h4
    rw [e] at h; cases h
theorem computedL (hN : NumOK kvs) : ∀ (k : Nat) {L n w : Nat} {d : D} {S : Mi.St}, k + 3 ≤ L → Cl n w d → exprP k d = true → callF pgl TURNS L n_computed [d, .dct kvs] S = .ok (.int (valP kvs k d)) S := by
  intro k
  induction k with
  | zero => intro L n w d S hL hc h; cases h
  | succ k ih =>
    intro L n w d S hL hc h
    refine Wp.eq (callL (by omega) fn9 rfl ?_)
    rcases exprTrue h with ⟨i, rfl⟩ | ⟨x, rfl⟩ | ⟨c, a, b, rfl, hw, h1, h2⟩
    · simp_arith [b_computed, isTs_str hc, isTs_tup hc, isStr, isTupP, Bool.not_false, valP]; simp
    · obtain ⟨i, e, -, -⟩ := num_get (x := x) hN
      simp_arith [b_computed, isTs_str hc, isStr, mtPre, dOf, Option.isSome_some, get2_, valP]
      exact ⟨intD_ e, trivial⟩
    · obtain ⟨m, v, hm, rfl, hp⟩ := hc.of_tup
      have ha := hp.mem (d := a) (by simp)
      have hb := hp.mem (d := b) (by simp)
      have i1 : ∀ {S}, callF pgl TURNS (L - 1) n_computed [a, .dct kvs] S = _ := fun {S} => ih (by omega) ha h1
      have i2 : ∀ {S}, callF pgl TURNS (L - 1) n_computed [b, .dct kvs] S = _ := fun {S} => ih (by omega) hb h2
      have hL1 : 1 ≤ L - 1 := by omega
      have l1 : ∀ S, subOp S c_CALCULATIONS (.str ADD) = some (.glo 2) := fun _ => rfl
      have l2 : ∀ S, subOp S c_CALCULATIONS (.str SUB) = some (.glo 3) := fun _ => rfl
      have l3 : ∀ S, subOp S c_CALCULATIONS (.str LESS) = some (.glo 4) := fun _ => rfl
      have l4 : ∀ S, subOp S c_CALCULATIONS (.str EQ) = some (.glo 5) := fun _ => rfl
      simp_arith [b_computed, isTs_str hc, isTs_tup hc, isStr, isTupP, Bool.not_true, con39]
      rcases hw with rfl | rfl | rfl | rfl
      · simp_arith [l1, fn2, Option.isSome_some, i1, i2, sumF hL1, valP]; simp [calcV]
      · simp_arith [l2, fn3, Option.isSome_some, i1, i2, difF hL1, valP]; simp [calcV, ADD, SUB]
      · simp_arith [l3, fn4, Option.isSome_some, i1, i2, lesF hL1, valP]; simp [calcV, ADD, SUB, LESS]
      · simp_arith [l4, fn5, Option.isSome_some, i1, i2, equF hL1, valP]; simp [calcV, ADD, SUB, LESS, EQ]
theorem worthL (hN : NumOK kvs) : ∀ (k : Nat) {L n w : Nat} {d : D} {S : Mi.St}, k + 3 ≤ L → Cl n w d → exprP k d = true → callF pgl TURNS L n_law_worth [d, .dct kvs] S = .ok (.int (valP kvs k d)) S := by
  intro k
  induction k with
  | zero => intro L n w d S hL hc h; cases h
  | succ k ih =>
    intro L n w d S hL hc h
    refine Wp.eq (callL (by omega) fn26 rfl ?_)
    rcases exprTrue h with ⟨i, rfl⟩ | ⟨x, rfl⟩ | ⟨c, a, b, rfl, hw, h1, h2⟩
    · simp_arith [b_law_worth, isTs_str hc, isTs_int hc, isStr, isIB, valP]; simp
    · obtain ⟨i, e, -, -⟩ := num_get (x := x) hN
      simp_arith [b_law_worth, isTs_str hc, isStr, mtPre, dOf, Option.isSome_some, get2_, valP]
      exact ⟨intD_ e, trivial⟩
    · obtain ⟨m, v, hm, rfl, hp⟩ := hc.of_tup
      have ha := hp.mem (d := a) (by simp)
      have hb := hp.mem (d := b) (by simp)
      have i1 : ∀ {S}, callF pgl TURNS (L - 1) n_law_worth [a, .dct kvs] S = _ := fun {S} => ih (by omega) ha h1
      have i2 : ∀ {S}, callF pgl TURNS (L - 1) n_law_worth [b, .dct kvs] S = _ := fun {S} => ih (by omega) hb h2
      have l1 : ∀ S, inOp S (.str ADD) (.tup [.str [108, 101, 115, 115], .str [101, 113, 117, 97, 108]]) = some false := fun _ => rfl
      have l2 : ∀ S, inOp S (.str SUB) (.tup [.str [108, 101, 115, 115], .str [101, 113, 117, 97, 108]]) = some false := fun _ => rfl
      have l3 : ∀ S, inOp S (.str LESS) (.tup [.str [108, 101, 115, 115], .str [101, 113, 117, 97, 108]]) = some true := fun _ => rfl
      have l4 : ∀ S, inOp S (.str EQ) (.tup [.str [108, 101, 115, 115], .str [101, 113, 117, 97, 108]]) = some true := fun _ => rfl
      have hs : ∀ {S : Mi.St} {b : Bool}, biOp S .int [.bl b] = some (.int (if b then 1 else 0)) := rfl
      simp_arith [b_law_worth, isTs_str hc, isTs_int hc, isStr, isIB, show atIx [D.str c, a, b] 0 = some (.str c) from rfl, show atIx [D.str c, a, b] 1 = some a from rfl, show atIx [D.str c, a, b] 2 = some b from rfl, i1, i2]
      rcases hw with rfl | rfl | rfl | rfl
      · simp_arith [l1, valP, show (ADD == [97, 100, 100]) = true from rfl]; simp [calcV]
      · simp_arith [l2, valP, show (SUB == [97, 100, 100]) = false from rfl]; simp [calcV, ADD, SUB]
      · simp_arith [l3, valP, show (LESS == [108, 101, 115, 115]) = true from rfl, hs]; simp [calcV, ADD, SUB, LESS]
      · simp_arith [l4, valP, show (EQ == [108, 101, 115, 115]) = false from rfl, hs]; simp [calcV, ADD, SUB, LESS, EQ]
theorem val_le (hN : NumOK kvs) : ∀ (k : Nat) {d : D}, exprP k d = true → (valP kvs k d).natAbs ≤ 1000000000000 * 2 ^ k := by
  intro k
  induction k with
  | zero => intro d h; cases h
  | succ k ih =>
    intro d h
    have p : 1 ≤ 2 ^ k := Nat.one_le_pow _ _ (by decide)
    rw [Nat.pow_succ]
    rcases exprTrue h with ⟨i, rfl⟩ | ⟨x, rfl⟩ | ⟨c, a, b, rfl, hw, h1, h2⟩
    · simp only [exprP, decide_eq_true_eq] at h
      simp only [valP]; omega
    · obtain ⟨i, e, e1, e2⟩ := num_get (x := x) hN
      simp only [valP, e, intD]; omega
    · have a1 := ih h1
      have a2 := ih h2
      simp only [valP, calcV]
      split
      · omega
      · split
        · omega
        · split
          · split <;> omega
          · split <;> omega
end
end K83
end
section
set_option Elab.async false
set_option linter.all false
set_option maxRecDepth 100000
set_option maxHeartbeats 4000000
namespace K83
open Mi
local macro_rules | `(tactic| simp_arith [$xs,*]) => `(tactic| simp -failIfUnchanged only [evS, evE, evEs, evO, evCs, evI, asg_name, asg_tup, asg_subw, asgs_nil, asgs_cons, alloc_f, alloc_t, allocD_f, allocD_t, asB_bl, stuck_, stuckS_, WpS.cons_, WpS.nil_, WpS.toS_, WpS.rt_, WpS.nx_, WpS.ite_, Wp.bnd_, Wp.ok_, Wp.nox_, Wp.some_, Wp.lift_, Wp.ite_, Wp.tB_, List.map, List.cons_append, List.nil_append, List.replicate, List.getElem?_cons_zero, List.getElem?_cons_succ, Option.bind_some, id, List.set_cons_zero, List.set_cons_succ, Option.some.injEq, exists_eq_left', Bool.false_eq_true, if_true, if_false, if_neg (fun h : False => h), D.int.injEq, D.bl.injEq, D.str.injEq, D.lst.injEq, D.tup.injEq, binOp, cmpOp, ord_op, add_int, int_op, Option.map_some, reduceCtorEq, false_and, exists_false, and_false, List.length_cons, List.length_nil, Nat.reduceAdd, Nat.reduceLT, Nat.reduceLeDiff, Nat.reduceEqDiff, itOf_lst, itOf_tup, itOf_str, len_lst, len_tup, len_str, sub_lst, sub_tup, eq_nil, eq_int, eq_str, le_LIM, wipe, in_tup_str, itEnu_fix, itZip_fix, $xs,*])
open PySem in
theorem dictText_le (ts : List Str) : (dictText ts).length ≤ piled ts + 2 := by
  cases ts with
  | nil => decide
  | cons t r =>
    have e := join_length_add (t :: r) (by simp)
    have e1 : (("{" : String) : Str).length = 1 := rfl
    have e2 : (("}" : String) : Str).length = 1 := rfl
    unfold dictText
    rw [strLen_append, strLen_append]
    omega
open PySem in
theorem kv_le : ∀ (kvs : List (D × D)), (∀ p ∈ kvs, ∃ x i, p = (D.str x, D.int i) ∧ nm (.str x) ∧ -1000 ≤ i ∧ i ≤ 1000) → piled (PySem.PyData.shownKv (pkv kvs)) ≤ 300 * kvs.length ∧ repOkv 58 kvs = true
  | [], _ => by simp [pkv, PySem.PyData.shownKv, piled_nil, repOkv]
  | p :: r, h => by
    obtain ⟨x, i, rfl, hx, h1, h2⟩ := h p (List.mem_cons_self ..)
    obtain ⟨a, b⟩ := kv_le r fun q hq => h q (List.mem_cons_of_mem _ hq)
    have s1 := shown_le (.str x) 0 (hx.cl 0).1
    have hi : wfD 0 (.int i) = true := (Cl.int (w := 1) (by omega) (Nat.le_refl _)).1
    have s2 := shown_le (.int i) 0 hi
    have l2 : ((": " : String) : PySem.Str).length = 2 := rfl
    simp only [szD] at s1 s2
    refine ⟨?_, ?_⟩
    · simp only [pkv, PySem.PyData.shownKv, piled_cons, PySem.strLen_append, List.length_cons]
      omega
    · simp only [repOkv, scalD, b, wf_rep (.int i) 58 (wfD_le (by decide) hi), Bool.and_true, Bool.true_and]
      simp [repOk]
open PySem in
/-- the text of [value, numbers] -/
theorem rep2 {n w : Nat} {d : D} {kvs : List (D × D)} (hN : NumOK kvs) (hc : Cl n w d) (hn : n ≤ 50) (hw : w ≤ 100000) (S : Mi.St) : repOp S (.lst [d, .dct kvs]) = some (.str (shw (.lst [d, .dct kvs]))) := by
  obtain ⟨k1, k2⟩ := kv_le kvs hN.2
  have a := wf_rep d 59 (wfD_le (by omega) hc.1)
  have b := shown_le d n hc.1
  have hN1 := hN.1
  have c : (shw (.lst [d, .dct kvs])).length ≤ LIM := by
    have h2 := hc.2
    have d1 := dictText_le (PySem.PyData.shownKv (pkv kvs))
    have d2 := listText_le (PySem.PyData.shownAll (pds [d, .dct kvs]))
    simp only [pds, PySem.PyData.shownAll, piled_cons, piled_nil, pd, PySem.PyData.shown] at d2
    show (pd (.lst [d, .dct kvs])).shown.cps.toList.length ≤ 16777216
    rw [len_toList]
    simp only [pd, PySem.PyData.shown, pds, PySem.PyData.shownAll]
    omega
  have e : repOk 60 (.lst [d, .dct kvs]) = true := by simp only [repOk, repOks, a, k2, Bool.and_true]
  simp only [repOp, vw, e, c, decide_true, Bool.and_true, if_true]
abbrev VALUE : Sg := [118, 97, 108, 117, 101]
section
variable {L n w : Nat} {d : D} {S : Mi.St} {kvs : List (D × D)}
theorem valueOfT (hL : 12 ≤ L) (hN : NumOK kvs) (hc : Cl n w d) (h : exprP 6 d = true) : callF pgl TURNS L n_value_of [d, .dct kvs] S = .ok (.int (valP kvs 6 d)) S := by
  refine Wp.eq (callL (by omega) fn8 rfl ?_)
  simp_arith [b_value_of, isExpr (show 9 ≤ L - 1 by omega) hc, h, Bool.not_true, computedL hN 6 (show 6 + 3 ≤ L - 1 by omega) hc h]
  simp
theorem xin43 : pgl.xin 43 = some (1, [(VALUE, 0)]) := rfl
theorem valueOfF {l : Nat} (hL : 9 ≤ l) (hc : Cl n w d) (h : exprP 6 d = false) : callF pgl TURNS (l + 1) n_value_of [d, .dct kvs] S = .exc 43 [(VALUE, d)] S := by
  have hE : ∀ {S}, callF pgl TURNS l n_is_expression [d] S = .ok (.bl (exprP 6 d)) S := fun {S} => isExpr hL hc
  simp only [callF, fn8, b_value_of, evSs, evS, evE, evEs, List.map, List.replicate, List.append_nil, List.getElem?_cons_zero, Option.bind_some, id, lift, bok, hE, h, tB, asB_bl, Bool.not_false, Re.toS, if_true, xin43, List.length_cons, List.length_nil, Nat.reduceAdd, mkX]
  rfl
theorem trA_ok {P : Pg} {F : Fns} {W c i : Nat} {b h : List CS} {e : Env} {N : Env → Mi.St → Prop} {R : D → Mi.St → Prop} (hx : P.xc = none) (k : WpS (evSs P F W b e S) N R) : WpS (evS P F W (.trA b c i h) e S) N R := by
  simp only [evS, hx]
  revert k
  cases evSs P F W b e S with
  | nx e S => exact fun k => k
  | rt d S => exact fun k => k
  | bk e S => exact fun k => k
  | ct e S => exact fun k => k
  | exc c fs e S => exact fun k => k.elim
  | stuck => exact fun k => k
theorem trA_ex {P : Pg} {F : Fns} {W c c' i : Nat} {b h : List CS} {e e1 : Env} {S1 : Mi.St} {fs : List (Sg × D)} {N : Env → Mi.St → Prop} {R : D → Mi.St → Prop} (hx : P.xc = none) (hb : evSs P F W b e S = .exc c' fs e1 S1) (hs : P.xsub c' c = some true)
    (k : WpS (evSs { P with xc := some (c', fs) } F W h (e1.set i none) S1) (fun e2 S2 => N (e2.set i none) S2) R) : WpS (evS P F W (.trA b c i h) e S) N R := by
  simp only [evS, hx, hb, hs]
  revert k
  cases evSs { P with xc := some (c', fs) } F W h (e1.set i none) S1 with
  | nx e S => exact fun k => k
  | rt d S => exact fun k => k
  | bk e S => exact fun k => k.elim
  | ct e S => exact fun k => k.elim
  | exc c fs e S => exact fun k => k.elim
  | stuck => exact fun k => k.elim
def dueD (kvs : List (D × D)) (d : D) : D := if exprP 6 d then .lst [.str VALUE, .int (valP kvs 6 d)] else .lst [.str [105, 110, 118, 97, 108, 105, 100], d, .bl true, .bl false]
theorem toldL (hL : 13 ≤ L) (hN : NumOK kvs) (hc : Cl n w d) : callF pgl TURNS L n_law_told [d, .dct kvs] S = .ok (dueD kvs d) S := by
  refine Wp.eq (callL (by omega) fn27 rfl ?_)
  generalize ht : CS.trA [.asg (.name 2) (.lst false [(.cst (.str [118, 97, 108, 117, 101])), (.call 8 [(.var 0), (.var 1)])])] 43 3 [.asg (.name 2) (.lst false [(.cst (.str [105, 110, 118, 97, 108, 105, 100])), (.exf 3 [118, 97, 108, 117, 101]), (.exi 3 [40]), (.exi 3 [42, 41])])] = t
  have e : b_law_told = [.asg (.name 2) (.lst false [(.cst (.str [111, 116, 104, 101, 114]))]), t, .ret (.var 2)] := ht ▸ rfl
  simp_arith [e]
  subst ht
  cases h : exprP 6 d
  · obtain ⟨l, rfl⟩ : ∃ l, L = l + 2 := ⟨L - 2, by omega⟩
    refine trA_ex (fs := [(VALUE, d)]) (c' := 43) (e1 := [some d, some (.dct kvs), some (.lst [.str [111, 116, 104, 101, 114]]), none]) (S1 := S) rfl ?_ rfl ?_
    · have hv : callF pgl TURNS (l + 2 - 1) n_value_of [d, .dct kvs] S = .exc 43 [(VALUE, d)] S := valueOfF (show 9 ≤ l by omega) hc h
      simp only [evSs, evS, evE, evEs, List.getElem?_cons_zero, List.getElem?_cons_succ, Option.bind_some, id, lift, bok, hv, Re.bnd, Re.toS]
    · have x1 : ∀ x, xisAny { pgl with xc := x } 43 [40] = some true := fun _ => rfl
      have x2 : ∀ x, xisAny { pgl with xc := x } 43 [42, 41] = some false := fun _ => rfl
      have x3 : List.lookup [118, 97, 108, 117, 101] [(VALUE, d)] = some d := rfl
      simp_arith [isHole, x1, x2, x3, dueD, h]
      exact ⟨trivial, trivial⟩
  · refine trA_ok rfl ?_
    simp_arith [valueOfT (show 12 ≤ L - 1 by omega) hN hc h, dueD, h]
    exact ⟨trivial, trivial⟩
theorem eq_nilR {q : Nat} {ds : List D} (h : S[q]? = some (some (.lst ds))) : eqOp S (.ref q) (.lst []) = some ds.isEmpty := by
  simp only [eqOp, vw, h, asL, empD]
  cases ds with
  | nil => rfl
  | cons x r =>
    split
    · rfl
    · rfl
abbrev OUT : Sg := [111, 117, 116]
theorem isInstr (hL : 11 ≤ L) (hc : Cl n w d) : callF pgl TURNS L n_is_instruction [.tup [.str OUT, d]] S = .ok (.bl (exprP 6 d)) S := by
  refine Wp.eq (callL (by omega) fn11 rfl ?_)
  have t1 : ∀ S, isTs pgl S (.tup [.str OUT, d]) [.bt "tuple"] = some true := fun _ => rfl
  have t2 : ∀ S, isTs pgl S (.str OUT) [.bt "str"] = some true := fun _ => rfl
  have t3 : ∀ S, inOp S (.str OUT) c_SHAPES = some true := fun _ => rfl
  have t4 : ∀ S, subOp S c_SHAPES (.str OUT) = some (.tup [.str [101, 120, 112, 114, 101, 115, 115, 105, 111, 110]]) := fun _ => rfl
  have part : ∀ {S}, callF pgl TURNS (L - 1) 10 [.str [101, 120, 112, 114, 101, 115, 115, 105, 111, 110], d] S = .ok (.bl (exprP 6 d)) S := fun {S} => by
    refine Wp.eq (callL (by omega) fn10 rfl ?_)
    simp_arith [b_is_part, con35, con36, c_NAME, c_EXPRESSION, show ([101, 120, 112, 114, 101, 115, 115, 105, 111, 110] == [110, 97, 109, 101]) = false from rfl, show ([101, 120, 112, 114, 101, 115, 115, 105, 111, 110] == [101, 120, 112, 114, 101, 115, 115, 105, 111, 110]) = true from rfl, isExpr (show 9 ≤ L - 1 - 1 by omega) hc]
    simp
  have z : zipD [.str [101, 120, 112, 114, 101, 115, 115, 105, 111, 110]] [d] = [.tup [.str [101, 120, 112, 114, 101, 115, 115, 105, 111, 110], d]] := rfl
  have st : (1 ≤ 2 ∧ 2 ≤ 16384) = True := eq_true (by decide)
  simp_arith [b_is_instruction, t1, Bool.not_true, show (((2 : Nat) : Int) == 0) = false from rfl, asg_star, List.take, List.drop, st, t2, t3, t4, con38, show (((1 : Nat) : Int) == ((1 : Nat) : Int)) = true from rfl, z]
  rw [comp_map (g := fun _ => .bl (exprP 6 d)) (Nat.lt_of_le_of_lt (Nat.le_refl 1) (by decide)) ?_]
  · simp_arith []
    have : biOp S .all [.lst [.bl (exprP 6 d)]] = some (.bl (exprP 6 d)) := by cases exprP 6 d <;> rfl
    simp_arith [this]
    simp
  · intro x hx
    rw [List.mem_singleton.mp hx]
    refine Wp.eq (α := Option D) ?_
    simp_arith [part]
    simp
end
end K83
end
section
set_option Elab.async false
set_option linter.all false
set_option maxRecDepth 100000
set_option maxHeartbeats 4000000
namespace K83
open Mi
local macro_rules | `(tactic| simp_arith [$xs,*]) => `(tactic| simp -failIfUnchanged only [evS, evE, evEs, evO, evCs, evI, asg_name, asg_tup, asg_subw, asgs_nil, asgs_cons, alloc_f, alloc_t, allocD_f, allocD_t, asB_bl, stuck_, stuckS_, WpS.cons_, WpS.nil_, WpS.toS_, WpS.rt_, WpS.nx_, WpS.ite_, Wp.bnd_, Wp.ok_, Wp.nox_, Wp.some_, Wp.lift_, Wp.ite_, Wp.tB_, List.map, List.cons_append, List.nil_append, List.replicate, List.getElem?_cons_zero, List.getElem?_cons_succ, Option.bind_some, id, List.set_cons_zero, List.set_cons_succ, Option.some.injEq, exists_eq_left', Bool.false_eq_true, if_true, if_false, if_neg (fun h : False => h), D.int.injEq, D.bl.injEq, D.str.injEq, D.lst.injEq, D.tup.injEq, binOp, cmpOp, ord_op, add_int, int_op, Option.map_some, reduceCtorEq, false_and, exists_false, and_false, List.length_cons, List.length_nil, Nat.reduceAdd, Nat.reduceLT, Nat.reduceLeDiff, Nat.reduceEqDiff, itOf_lst, itOf_tup, itOf_str, len_lst, len_tup, len_str, sub_lst, sub_tup, eq_nil, eq_int, eq_str, le_LIM, wipe, in_tup_str, itEnu_fix, itZip_fix, $xs,*])
section
variable {L n w : Nat} {d : D} {S : Mi.St} {kvs : List (D × D)}
theorem entriesL {x : D} (hL : 1 ≤ L) : callF pgl TURNS L n_entries [.tup [], .lst [x]] S = .ok (.ref S.length) (S ++ [some (.lst [.tup [.tup [.int 0], x]])]) := by
  obtain ⟨a, S', e, rfl, rfl⟩ : ∃ a S', callF pgl TURNS L n_entries [.tup [], .lst [x]] S = .ok a S' ∧ a = .ref S.length ∧ S' = S ++ [some (.lst [.tup [.tup [.int 0], x]])] := by
    apply Wp.elim
    refine callL hL fn12 rfl ?_
    have z : enuD [x] = [.tup [.int 0, x]] := rfl
    simp_arith [b_entries, z]
    rw [comp_map (g := fun _ => .tup [.tup [.int 0], x]) (Nat.lt_of_le_of_lt (Nat.le_refl 1) (by decide)) ?_]
    · simp_arith [asL, List.reverse_cons, List.reverse_nil]
      simp
    · intro y hy
      rw [List.mem_singleton.mp hy]
      refine Wp.eq (α := Option D) ?_
      have ha : addOp S (.tup []) (.tup [.int 0]) = some (.tup [.int 0]) := by rw [add_tup (Nat.le_trans (show _ ≤ 1 by simp) (by decide))]; rfl
      simp_arith [ha]
      simp
  exact e
theorem firstL (hL : 12 ≤ L) (hc : Cl n w d) : Wp (callF pgl TURNS L n_first_problem [.lst [.tup [.str OUT, d]]] S) (fun r S' => r = (if exprP 6 d then .non else .tup [.int 0]) ∧ ∃ t, S' = S ++ t) := by
  refine callL (by omega) fn13 rfl ?_
  have t1 : ∀ S, isTs pgl S (.lst [.tup [.str OUT, d]]) [.bt "list"] = some true := fun _ => rfl
  simp_arith [b_first_problem, t1, Bool.not_true, entriesL (show 1 ≤ L - 1 by omega)]
  refine WpS.turnsW_ (fun m e S' => (m = 1 ∧ e = [some (.lst [.tup [.str OUT, d]]), some (.ref S.length), some (.int 0), none, none, none, none] ∧ S' = S ++ [some (.lst [.tup [.tup [.int 0], .tup [.str OUT, d]]])]) ∨ (m = 0 ∧ exprP 6 d = true ∧ (∃ x2 x3 x4 x5 x6, e = [some (.lst [.tup [.str OUT, d]]), some (.ref S.length), x2, x3, x4, x5, x6]) ∧ S' = S ++ [some (.lst [])])) ?_ TURNS 1 _ _ (by decide) (Or.inl ⟨rfl, rfl, rfl⟩)
  rintro m e S' (⟨rfl, rfl, rfl⟩ | ⟨rfl, h6, ⟨x2, x3, x4, x5, x6, rfl⟩, rfl⟩)
  · have hs : (S ++ [some (SO.lst [.tup [.tup [.int 0], .tup [.str OUT, d]]])])[S.length]? = some (some (.lst [.tup [.tup [.int 0], .tup [.str OUT, d]]])) := by simp
    have hset : (S ++ [some (SO.lst [.tup [.tup [.int 0], .tup [.str OUT, d]]])]).set S.length (some (.lst [])) = S ++ [some (.lst [])] := by simp
    have hpre : mtPre (S ++ [some (SO.lst [.tup [.tup [.int 0], .tup [.str OUT, d]]])]) .pop (.ref S.length) = true := by simp only [mtPre, asM, hs, Option.isSome_some]
    have hpop : mtOp (S ++ [some (SO.lst [.tup [.tup [.int 0], .tup [.str OUT, d]]])]) (.ref S.length) .pop [] = some (.tup [.tup [.int 0], .tup [.str OUT, d]], S ++ [some (.lst [])]) := by
      simp only [mtOp, hs]
      show some (_, (S ++ [some (SO.lst [.tup [.tup [.int 0], .tup [.str OUT, d]]])]).set S.length (some (.lst []))) = _
      rw [hset]; rfl
    have t4 : ∀ S, subOp S c_SHAPES (.str OUT) = some (.tup [.str [101, 120, 112, 114, 101, 115, 115, 105, 111, 110]]) := fun _ => rfl
    simp_arith [eq_nilR hs, List.isEmpty, Bool.not_false, hpre, hpop, con33, con32, c_MAX_INSTRUCTIONS, c_MAX_DEPTH, show decide ((200 : Int) < 0 + 1) = false from rfl, fdiv_ (i := ((1 : Nat) : Int)) (j := 2) (by decide) (by decide), show decide ((6 : Int) ≤ ((1 : Nat) : Int) / 2) = false from rfl, isInstr (show 11 ≤ L - 1 by omega) hc]
    cases h6 : exprP 6 d
    · simp_arith [Bool.not_false]
      exact ⟨trivial, _, rfl⟩
    · have t5 : ∀ S, asSeq S (.tup [.str [101, 120, 112, 114, 101, 115, 115, 105, 111, 110]]) = some [.str [101, 120, 112, 114, 101, 115, 115, 105, 111, 110]] := fun _ => rfl
      have z : enuD [D.str [101, 120, 112, 114, 101, 115, 115, 105, 111, 110]] = [.tup [.int 0, .str [101, 120, 112, 114, 101, 115, 115, 105, 111, 110]]] := rfl
      simp_arith [Bool.not_true, con38, show atIx [D.str OUT, d] 0 = some (.str OUT) from rfl, t4, t5, z, asL, List.reverse_cons, List.reverse_nil]
      refine WpS.turnsF_ (fun rest e S' => (∀ x ∈ rest, x = .tup [.int 0, .str [101, 120, 112, 114, 101, 115, 115, 105, 111, 110]]) ∧ S' = S ++ [some (.lst [])] ∧ ∃ x2 x3 x4 x5 x6, e = [some (.lst [.tup [.str OUT, d]]), some (.ref S.length), x2, x3, x4, x5, x6]) (Nat.lt_of_le_of_lt (Nat.le_refl 1) (by decide)) ⟨fun x hx => List.mem_singleton.mp hx, rfl, _, _, _, _, _, rfl⟩ ?_ ?_
      · rintro x rest e S' ⟨hr, rfl, x2, x3, x4, x5, x6, rfl⟩
        rw [hr x (List.mem_cons_self ..)]
        simp_arith [con37, c_BODY, show ([101, 120, 112, 114, 101, 115, 115, 105, 111, 110] == [98, 111, 100, 121]) = false from rfl]
        exact ⟨fun x hx => hr x (List.mem_cons_of_mem _ hx), trivial, _, _, _, _, _, rfl⟩
      · rintro e S' ⟨-, rfl, hx⟩
        exact ⟨0, by decide, Or.inr ⟨rfl, trivial, hx, rfl⟩⟩
  · have hs : (S ++ [some (SO.lst [])])[S.length]? = some (some (.lst [])) := by simp
    simp_arith [eq_nilR hs, List.isEmpty, Bool.not_true, h6]
    exact ⟨trivial, _, rfl⟩
theorem isProgL (hL : 13 ≤ L) (hc : Cl n w d) : Wp (callF pgl TURNS L n_is_program [.lst [.tup [.str OUT, d]]] S) (fun r S' => r = .bl (exprP 6 d) ∧ ∃ t, S' = S ++ t) := by
  refine callL (by omega) fn14 rfl ?_
  simp_arith [b_is_program]
  refine Wp.mono (firstL (by omega) hc) ?_
  rintro _ S' ⟨rfl, t, rfl⟩
  cases h6 : exprP 6 d
  · simp_arith [isNon]; exact ⟨trivial, _, rfl⟩
  · simp_arith [isNon]; exact ⟨trivial, _, rfl⟩
theorem Rg.grow {r : Nat} {H : List (Nat × List D)} (h : Rg r H S) (t : Mi.St) : Rg r H (S ++ t) := by
  obtain ⟨⟨a, b, hr, ha⟩, hH⟩ := h
  refine ⟨⟨a, b, ?_, ha⟩, fun x hx => ⟨(hH x hx).1, ?_⟩⟩
  · rw [List.getElem?_append_left (List.getElem?_eq_some_iff.mp hr).1, hr]
  · have := (hH x hx).2
    rw [List.getElem?_append_left (List.getElem?_eq_some_iff.mp this).1, this]
theorem dueCl (hN : NumOK kvs) (hc : Cl n w d) : Cl (n + 1) (w + 5) (dueD kvs d) := by
  unfold dueD
  split
  · rename_i h
    have := val_le hN 6 h
    exact (Cl.lst (n := n) (Cls.cons (w := 1) ⟨wfD_le (Nat.zero_le _) (show wfD 0 (.str VALUE) = true from rfl), Nat.le_refl _⟩ (Cls.one (w := 1) (Cl.int (Nat.lt_of_le_of_lt this (by decide)) (Nat.le_refl _))))).le (Nat.le_refl _) (by omega)
  · exact (Cl.lst (n := n) (Cls.cons (w := 1) ⟨wfD_le (Nat.zero_le _) (show wfD 0 (.str [105, 110, 118, 97, 108, 105, 100]) = true from rfl), Nat.le_refl _⟩ (Cls.cons hc (Cls.cons (w := 1) (d := .bl true) ⟨by simp [wfD], Nat.le_refl _⟩ (Cls.one (w := 1) (d := .bl false) ⟨by simp [wfD], Nat.le_refl _⟩))))).le (Nat.le_refl _) (by omega)
theorem rightL (hL : n + 20 ≤ L) (hN : NumOK kvs) (hc : Cl n w d) (hn : n ≤ 40) (hw : w ≤ 90000) : Wp (callF pgl TURNS L n_law_right [d, .dct kvs] S) (fun r S' => r = .bl true ∧ ∃ t, S' = S ++ t) := by
  refine callL (by omega) fn28 rfl ?_
  have hb : ∀ S x, biOp S .rep [x] = repOp S x := fun S x => rfl
  have r1 : ∀ S, repOp S (.lst [d, .dct kvs]) = _ := fun S => rep2 hN hc (by omega) (by omega) S
  have r2 : ∀ S, repOp S (dueD kvs d) = _ := fun S => (dueCl hN hc).repr (by omega) (by omega) S
  have r3 : ∀ b S, repOp S (.bl b) = some (.str (shw (.bl b))) := fun b S => Cl.repr (n := 0) (w := 1) ⟨by simp [wfD], Nat.le_refl _⟩ (by decide) (by decide) S
  have hd : decide (((depthF (n + 1) d : Nat) : Int) ≤ 6) = exprP 6 d := by
    rw [expr_depth n (show 6 ≤ 90 by decide) hc]
    congr 1
    apply propext
    omega
  generalize ht : b_law_right.drop 2 = tl
  have e : b_law_right = .asg (.tup [(.name 4), (.name 5)]) (.tup [(.bi .rep [(.lst false [(.var 0), (.var 1)])]), (.cmp .le (.call 25 [(.var 0)]) (.cst (.int 6)))]) :: .asg (.name 2) (.ite (.var 5) (.lst false [(.cst (.str [118, 97, 108, 117, 101])), (.call 26 [(.var 0), (.var 1)])]) (.lst false [(.cst (.str [105, 110, 118, 97, 108, 105, 100])), (.var 0), (.cst (.bl true)), (.cst (.bl false))])) :: tl := ht ▸ rfl
  have tail : WpS (evSs pgl (callF pgl TURNS (L - 1)) TURNS tl [some d, some (.dct kvs), some (dueD kvs d), none, some (.str (shw (.lst [d, .dct kvs]))), some (.bl (exprP 6 d))] S) (fun _ _ => False) (fun r S' => r = .bl true ∧ ∃ t, S' = S ++ t) := by
    subst ht
    simp_arith [b_law_right, List.drop, rng_one (n := 2) (by decide) (by decide)]
    refine WpS.turnsF_ (fun rest e S' => S' = S ∧ ∃ x3, e = [some d, some (.dct kvs), some (dueD kvs d), x3, some (.str (shw (.lst [d, .dct kvs]))), some (.bl (exprP 6 d))]) (by decide) ⟨rfl, _, rfl⟩ ?_ ?_
    · rintro x rest e S' ⟨rfl, x3, rfl⟩
      simp_arith [hb, isExpr (show 9 ≤ L - 1 by omega) hc, r3, r2, toldL (show 13 ≤ L - 1 by omega) hN hc, BEq.rfl, Bool.not_true]
      exact ⟨trivial, _, rfl⟩
    · rintro e S' ⟨rfl, x3, rfl⟩
      simp_arith []
      refine Wp.mono (isProgL (by omega) hc) ?_
      rintro _ S' ⟨rfl, t, rfl⟩
      simp_arith [hb, r3, r1, BEq.rfl, Bool.not_true]
      exact ⟨trivial, _, rfl⟩
  simp_arith [e, hb, r1, lawDepth n (show n + 3 ≤ L - 1 by omega) hc, hd]
  cases h : exprP 6 d
  · simp_arith []
    rw [h] at tail
    have : dueD kvs d = .lst [.str [105, 110, 118, 97, 108, 105, 100], d, .bl true, .bl false] := by unfold dueD; rw [h]; rfl
    rw [this] at tail
    exact WpS.mono tail (fun _ _ h => h.elim) fun _ _ h => h
  · simp_arith [worthL hN 6 (show 6 + 3 ≤ L - 1 by omega) hc h]
    rw [h] at tail
    have : dueD kvs d = .lst [.str VALUE, .int (valP kvs 6 d)] := by unfold dueD; rw [h]; rfl
    rw [this] at tail
    exact WpS.mono tail (fun _ _ h => h.elim) fun _ _ h => h
end
end K83
end
section
set_option Elab.async false
set_option linter.all false
set_option maxRecDepth 100000
set_option maxHeartbeats 4000000
namespace K83
open Mi
local macro_rules | `(tactic| simp_arith [$xs,*]) => `(tactic| simp -failIfUnchanged only [evS, evE, evEs, evO, evCs, evI, asg_name, asg_tup, asg_subw, asgs_nil, asgs_cons, alloc_f, alloc_t, allocD_f, allocD_t, asB_bl, stuck_, stuckS_, WpS.cons_, WpS.nil_, WpS.toS_, WpS.rt_, WpS.nx_, WpS.ite_, Wp.bnd_, Wp.ok_, Wp.nox_, Wp.some_, Wp.lift_, Wp.ite_, Wp.tB_, List.map, List.cons_append, List.nil_append, List.replicate, List.getElem?_cons_zero, List.getElem?_cons_succ, Option.bind_some, id, List.set_cons_zero, List.set_cons_succ, Option.some.injEq, exists_eq_left', Bool.false_eq_true, if_true, if_false, if_neg (fun h : False => h), D.int.injEq, D.bl.injEq, D.str.injEq, D.lst.injEq, D.tup.injEq, binOp, cmpOp, ord_op, add_int, int_op, Option.map_some, reduceCtorEq, false_and, exists_false, and_false, List.length_cons, List.length_nil, Nat.reduceAdd, Nat.reduceLT, Nat.reduceLeDiff, Nat.reduceEqDiff, itOf_lst, itOf_tup, itOf_str, len_lst, len_tup, len_str, sub_lst, sub_tup, eq_nil, eq_int, eq_str, le_LIM, wipe, in_tup_str, itEnu_fix, itZip_fix, $xs,*])
theorem p18 : powI 10 18 = some 1000000000000000000 := by rfl
theorem sq_ {x : Int} (h0 : 0 ≤ x) (h1 : x < 10000000000) : powI x 2 = some (x * x) := by
  unfold powI
  rw [if_pos ⟨by decide, by decide, Int.lt_of_lt_of_le (by decide) h0, Int.lt_trans h1 (by decide)⟩]
  rw [show (2 : Int).toNat = 2 from rfl, Int.pow_succ, Int.pow_succ, Int.pow_zero, Int.one_mul]
theorem rng_ok {S : Mi.St} {x y : Int} (h : 0 ≤ x) : Rg S.length [] (S ++ [some (.lst [.int x, .int y])]) := ⟨⟨_, _, List.getElem?_concat_length, h⟩, by simp⟩
theorem rngL {L k : Nat} {S : Mi.St} {ns : List Int} (hL : 1 ≤ L) (hk : k ≤ 63) : Wp (callF pgl TURNS L n_law_rng [.lck (ns.map D.int), .int (k : Int)] S) (fun d S' => ∃ r, d = .ref r ∧ Rg r [] S') := by
  refine callL (by omega) fn15 rfl ?_
  have tail : ∀ c : Int, 0 ≤ c → WpS (evSs pgl (callF pgl TURNS (L - 1)) TURNS (b_law_rng.drop 1) [some (.lck (ns.map D.int)), some (.int (k : Int)), some (.int c)] S) (fun _ _ => False) (fun d S' => ∃ r, d = .ref r ∧ Rg r [] S') := by
    intro c hc
    have hm := Int.emod_lt_of_pos c (show (0 : Int) < 2147483543 by decide)
    have hm0 := Int.emod_nonneg c (show (2147483543 : Int) ≠ 0 by decide)
    have hpow := sq_ (show 0 ≤ c % 2147483543 + 101 * (k : Int) + 7 by omega) (show c % 2147483543 + 101 * (k : Int) + 7 < 10000000000 by omega)
    have hmax : ∀ S x, biOp S .max [.int 0, .int x] = some (.int (if x > 0 then x else 0)) := fun _ _ => rfl
    simp_arith [b_law_rng, List.drop, p18, mod_ (j := 2147483543) (by decide), mul_r (i := 101) (j := (k : Int)) (Int.lt_of_lt_of_le (by decide) (show (0 : Int) ≤ k by omega)) (Int.lt_trans (show _ < (10000 : Int) by omega) (by decide)), hpow, mod_ (j := 2147483497) (by decide), hmax]
    exact ⟨_, rfl, rng_ok (by split <;> omega)⟩
  generalize ht : b_law_rng.drop 1 = tl at tail
  have e : b_law_rng = .asg (.name 2) (.ite (.cmp .lt (.var 1) (.bi .len [(.var 0)])) (.bi .abs [(.sub (.var 0) (.var 1))]) (.cst (.int 0))) :: tl := ht ▸ rfl
  have hlen : ∀ S, biOp S .len [.lck (ns.map D.int)] = some (.int (ns.length : Int)) := fun S => by simp only [biOp, asSeq, asL, Option.map_some, List.length_map]
  simp_arith [e, hlen]
  by_cases hkl : (k : Int) < ns.length
  · have hs : subOp S (.lck (ns.map D.int)) (.int (k : Int)) = some (.int ns[k]) := by
      simp only [subOp, asSeq, asL, Option.bind_some]
      rw [atIx_nat, List.getElem?_map, List.getElem?_eq_getElem (by omega)]
      rfl
    simp_arith [hkl, decide_true, hs, abs_]
    exact tail _ (by omega)
  · simp_arith [hkl, decide_false]
    exact tail 0 (by omega)
end K83
end
section
set_option Elab.async false
set_option linter.all false
set_option maxRecDepth 100000
set_option maxHeartbeats 4000000
namespace K83
open Mi
local macro_rules | `(tactic| simp_arith [$xs,*]) => `(tactic| simp -failIfUnchanged only [evS, evE, evEs, evO, evCs, evI, asg_name, asg_tup, asg_subw, asgs_nil, asgs_cons, alloc_f, alloc_t, allocD_f, allocD_t, asB_bl, stuck_, stuckS_, WpS.cons_, WpS.nil_, WpS.toS_, WpS.rt_, WpS.nx_, WpS.ite_, Wp.bnd_, Wp.ok_, Wp.nox_, Wp.some_, Wp.lift_, Wp.ite_, Wp.tB_, List.map, List.cons_append, List.nil_append, List.replicate, List.getElem?_cons_zero, List.getElem?_cons_succ, Option.bind_some, id, List.set_cons_zero, List.set_cons_succ, Option.some.injEq, exists_eq_left', Bool.false_eq_true, if_true, if_false, if_neg (fun h : False => h), D.int.injEq, D.bl.injEq, D.str.injEq, D.lst.injEq, D.tup.injEq, binOp, cmpOp, ord_op, add_int, int_op, Option.map_some, reduceCtorEq, false_and, exists_false, and_false, List.length_cons, List.length_nil, Nat.reduceAdd, Nat.reduceLT, Nat.reduceLeDiff, Nat.reduceEqDiff, itOf_lst, itOf_tup, itOf_str, len_lst, len_tup, len_str, sub_lst, sub_tup, eq_nil, eq_int, eq_str, le_LIM, wipe, in_tup_str, itEnu_fix, itZip_fix, $xs,*])
def OKp (p : D × D) : Prop := ∃ x i, p = (.str x, .int i) ∧ nm (.str x) ∧ -1000 ≤ i ∧ i ≤ 1000
theorem put_ok {k v : D} {kvs : List (D × D)} (hp : OKp (k, v)) (h : ∀ p ∈ kvs, OKp p) : (∀ p ∈ putD k v kvs, OKp p) ∧ (putD k v kvs).length ≤ kvs.length + 1 := by
  unfold putD
  split
  · refine ⟨fun p hp2 => ?_, by simp⟩
    obtain ⟨q, hq, rfl⟩ := List.mem_map.mp hp2
    obtain ⟨x, i, rfl, hx, h1, h2⟩ := h q hq
    obtain ⟨y, j, e, hy, h3, h4⟩ := hp
    cases e
    split
    · exact ⟨x, j, rfl, hx, h3, h4⟩
    · exact ⟨x, i, rfl, hx, h1, h2⟩
  · refine ⟨fun p hp2 => ?_, by simp⟩
    rcases List.mem_append.mp hp2 with hp2 | hp2
    · exact h p hp2
    · rw [List.mem_singleton.mp hp2]; exact hp
theorem merge_ok : ∀ (ps kvs : List (D × D)), (∀ p ∈ ps, OKp p) → (∀ p ∈ kvs, OKp p) → (∀ p ∈ mergeD kvs ps, OKp p) ∧ (mergeD kvs ps).length ≤ kvs.length + ps.length
  | [], kvs, _, h => ⟨h, by simp [mergeD]⟩
  | p :: r, kvs, hp, h => by
    have a := put_ok (k := p.1) (v := p.2) (hp p (List.mem_cons_self ..)) h
    have b := merge_ok r (putD p.1 p.2 kvs) (fun q hq => hp q (List.mem_cons_of_mem _ hq)) a.1
    refine ⟨b.1, ?_⟩
    have : (mergeD kvs (p :: r)).length ≤ (putD p.1 p.2 kvs).length + r.length := b.2
    have := a.2
    simp only [List.length_cons]
    omega
def tupP (p : D × D) : D := .tup [p.1, p.2]
theorem pairs_of : ∀ ps : List (D × D), pairsOf (ps.map tupP) = some ps
  | [] => rfl
  | p :: r => by
    show (pairsOf (r.map tupP)).map ((p.1, p.2) :: ·) = _
    rw [pairs_of r]; rfl
theorem dict_ {S : Mi.St} {ps : List (D × D)} (h : ∀ p ∈ ps, OKp p) : biOp S .dict [.lst (ps.map tupP)] = some (.dct (mergeD [] ps)) := by
  simp only [biOp, asL, Option.bind_some, pairs_of]
  rw [if_pos]
  rw [List.all_eq_true]
  intro p hp
  obtain ⟨x, i, rfl, -⟩ := h p hp
  rfl
theorem at_last {xs : List D} {v : D} : atIx (xs ++ [v]) (-1) = some v := by
  have e : ixOf (xs ++ [v]).length (-1) = some xs.length := by
    simp only [ixOf, List.length_append, List.length_cons, List.length_nil]
    rw [if_neg (by decide), if_pos (by omega)]
    congr 1
    omega
  simp only [atIx, e, Option.bind_some]
  simp
theorem shw_end : shw (.lst [.int 6, .int 200]) = [91, 54, 44, 32, 50, 48, 48, 93] := by decide +kernel
theorem lawL (ns : List Int) : Wp (callF pgl TURNS 200 n_law [.lck (ns.map D.int)] []) (fun x _ => x = .bl true) := by
  refine callL (by decide) fn29 rfl ?_
  have hlen : ∀ S, biOp S .len [.lck (ns.map D.int)] = some (.int (ns.length : Int)) := fun S => by simp only [biOp, asSeq, asL, Option.map_some, List.length_map]
  have hmin : ∀ S, biOp S .min [.int 8, .int (ns.length : Int)] = some (.int (min 8 ns.length : Nat)) := fun S => by
    simp only [biOp]
    congr 2
    split <;> omega
  have hmax : ∀ S, biOp S .max [.int 1, .int (min 8 ns.length : Nat)] = some (.int (max 1 (min 8 ns.length) : Nat)) := fun S => by
    simp only [biOp]
    congr 2
    split <;> omega
  have hb : ∀ S x, biOp S .rep [x] = repOp S x := fun S x => rfl
  have hrep : ∀ S, repOp S (.lst [.int 6, .int 200]) = some (.str (shw (.lst [.int 6, .int 200]))) := fun S => Cl.repr (n := 1) (w := 3) ⟨rfl, by decide⟩ (by decide) (by decide) S
  simp_arith [b_law, hlen, hmin, hmax]
  rw [rng_one (by omega) (by omega)]
  simp_arith []
  refine WpS.turnsF_ (fun rest e S => (∀ d ∈ rest, ∃ i : Nat, i < 10 ∧ d = .int (i : Int)) ∧ ∃ x1 x2 x3 x4 x5 x6 x7 x8, e = [some (.lck (ns.map D.int)), x1, x2, x3, x4, x5, x6, x7, x8]) (by simp only [List.length_map, List.length_range]; exact Nat.lt_of_le_of_lt (show _ ≤ 10 by omega) (by decide)) ⟨fun d hd => ?_, _, _, _, _, _, _, _, _, rfl⟩ ?_ ?_
  · obtain ⟨i, hi, rfl⟩ := range_last hd
    exact ⟨i, by omega, rfl⟩
  · rintro x rest e S ⟨hx, x1, x2, x3, x4, x5, x6, x7, x8, rfl⟩
    obtain ⟨i, hi, rfl⟩ := hx x (List.mem_cons_self ..)
    have hx' : ∀ d ∈ rest, ∃ i : Nat, i < 10 ∧ d = .int (i : Int) := fun d hd => hx d (List.mem_cons_of_mem _ hd)
    simp_arith []
    refine Wp.mono (rngL (by decide) (by omega)) ?_
    rintro _ S1 ⟨r, rfl, h⟩
    simp_arith []
    refine Wp.mono (drawL (by decide) (by decide) (by decide) h) ?_
    rintro _ S1 ⟨⟨a, rfl, ha, ha2⟩, h⟩
    obtain ⟨a, rfl⟩ := Int.eq_ofNat_of_zero_le ha
    have ea : 1 + (a : Int) = ((1 + a : Nat) : Int) := by omega
    simp_arith [ea]
    refine Wp.mono (namesL (by decide) (by omega) h) ?_
    rintro _ S1 ⟨q, l, rfl, h, hl, hnm⟩
    have hsl : ∀ {S : Mi.St}, Rg r [(q, strsD l)] S → slcOp S (.ref q) none (some 4) = some (.lst ((strsD l).take 4)) := fun {S} h => by
      have := (h.2 _ (List.mem_cons_self ..)).2
      simp only [slcOp, asL, this, Option.map_some]
      rw [show (4 : Int) = ((4 : Nat) : Int) from rfl, cut_to]
    simp_arith [hsl h]
    refine Wp.turnsC_ (fun rest acc S => Rg r [(q, strsD l)] S ∧ (∀ d ∈ rest, nm d) ∧ ∃ ps, acc = ps.map tupP ∧ (∀ p ∈ ps, OKp p) ∧ ps.length + rest.length ≤ 4) (Nat.lt_of_le_of_lt (show _ ≤ 4 by rw [List.length_take]; omega) (by decide)) ⟨h, fun d hd => hnm d (List.mem_of_mem_take hd), [], rfl, by simp, by rw [List.length_take]; simp; omega⟩ ?_ ?_
    · rintro x rest acc S ⟨h, hr, ps, rfl, hps, hlen⟩
      simp only [List.length_cons] at hlen
      simp_arith []
      refine Wp.mono (drawL (by decide) (by decide) (by decide) h) ?_
      rintro _ S1 ⟨⟨b, rfl, hb1, hb2⟩, h⟩
      obtain ⟨y, rfl, hy1, hy2⟩ := hr x (List.mem_cons_self ..)
      simp_arith []
      refine ⟨h, fun d hd => hr d (List.mem_cons_of_mem _ hd), ps ++ [(.str y, .int (b - 1000))], by simp [tupP], ?_, by simp only [List.length_append, List.length_cons, List.length_nil]; omega⟩
      intro p hp
      rcases List.mem_append.mp hp with hp | hp
      · exact hps p hp
      · rw [List.mem_singleton.mp hp]
        exact ⟨y, b - 1000, rfl, ⟨y, rfl, hy1, hy2⟩, by omega, by omega⟩
    · rintro acc S2 ⟨h, -, ps, rfl, hps, hpl⟩
      simp only [List.length_nil] at hpl
      simp_arith [dict_ hps]
      have hm := merge_ok ps [] hps (by simp)
      have hN : NumOK (mergeD [] ps) := ⟨by have := hm.2; simp at this; omega, hm.1⟩
      generalize mergeD [] ps = kvs at hN
      have hn0 : 0 < (strsD l).length := by simp [strsD]; omega
      have hn1 : (strsD l).length ≤ 1000 := by simp [strsD]; omega
      simp_arith [rng_one (n := 5) (by decide) (by decide)]
      refine Wp.turnsC_ (fun rest acc S => Rg r [(q, strsD l)] S ∧ (∀ d ∈ acc, Cl 7 2187 d) ∧ acc.length + rest.length = 5) (by decide) ⟨h, by simp, by simp⟩ ?_ ?_
      · rintro x rest acc S ⟨h, hacc, hlen⟩
        simp only [List.length_cons] at hlen
        simp_arith []
        refine Wp.mono (drawL (by decide) (by decide) (by decide) h) ?_
        rintro _ S1 ⟨⟨b, rfl, hb1, hb2⟩, h⟩
        obtain ⟨b, rfl⟩ := Int.eq_ofNat_of_zero_le hb1
        have eb : 1 + (b : Int) = ((1 + b : Nat) : Int) := by omega
        simp_arith [eb]
        refine Wp.mono (drawnL (H := [(q, strsD l)]) (List.mem_cons_self ..) hn0 hn1 hnm (1 + b) (by omega) (by omega) h) ?_
        rintro d S1 ⟨hd, h⟩
        simp_arith []
        refine ⟨h, ?_, by simp only [List.length_append, List.length_cons, List.length_nil]; omega⟩
        intro y hy
        rcases List.mem_append.mp hy with hy | hy
        · exact hacc y hy
        · rw [List.mem_singleton.mp hy]
          exact hd.le (by omega) (Nat.le_trans (Nat.pow_le_pow_right (by decide) (show 1 + b ≤ 7 by omega)) (by decide))
      · rintro acc S3 ⟨h, hacc, hal⟩
        simp only [List.length_nil] at hal
        have hqS := (h.2 _ (List.mem_cons_self ..)).2
        have hqlt : q < S3.length := (List.getElem?_eq_some_iff.mp hqS).1
        replace h := h.new (ds := acc)
        have hpq : ∀ x ∈ [(q, strsD l)], x.1 ≠ S3.length := by
          intro x hx
          rw [List.mem_singleton.mp hx]
          show q ≠ S3.length
          omega
        simp_arith []
        generalize hS4 : S3 ++ [some (SO.lst acc)] = S4 at h ⊢
        generalize hp : S3.length = p at h hpq ⊢
        have hlist : biOp S4 .list [.ref p] = some (.lst acc) := by simp only [biOp, asSeq, asL, (h.2 _ (List.mem_cons_self ..)).2, Option.map_some]
        have hpre : ∀ {S : Mi.St} {ds : List D}, Rg r [(p, ds), (q, strsD l)] S → mtPre S .append (.ref p) = true := fun h => by simp only [mtPre, asM, (h.2 _ (List.mem_cons_self ..)).2, Option.isSome_some]
        simp_arith [hlist]
        refine WpS.turnsF_ (fun rest e S => (∀ d ∈ rest, Cl 7 2187 d) ∧ ∃ ds x6 x7 x8, Rg r [(p, ds), (q, strsD l)] S ∧ (∀ d ∈ ds, Cl 13 3000 d) ∧ ds.length + 2 * rest.length ≤ 15 ∧ e = [some (.lck (ns.map D.int)), some (.int (i : Int)), some (.ref r), some (.ref q), some (.dct kvs), some (.ref p), x6, x7, x8]) (Nat.lt_of_le_of_lt (show _ ≤ 5 by omega) (by decide)) ⟨hacc, acc, _, _, _, h, fun d hd => (hacc d hd).le (by decide) (by decide), by omega, rfl⟩ ?_ ?_
        · rintro x rest e S ⟨hr, ds, x6, x7, x8, h, hds, hdl, rfl⟩
          simp only [List.length_cons] at hdl
          have hxc := hr x (List.mem_cons_self ..)
          simp_arith [hpre h]
          refine Wp.mono (spoiltL 7 (by decide) hxc (by decide) h) ?_
          rintro v S1 ⟨hv, h⟩
          have hv : Cl 10 2193 v := hv.le (by decide) (by have := hxc.2; omega)
          simp_arith [append_ (h.2 _ (List.mem_cons_self ..)).2 (show ds.length ≤ 1000 by omega)]
          replace h := h.push (es := ds ++ [v]) hpq
          simp_arith [hpre h, sub_ref (h.2 _ (List.mem_cons_self ..)).2, at_last]
          refine Wp.mono (spoiltL 10 (by decide) hv (by decide) h) ?_
          rintro v2 S2 ⟨hv2, h⟩
          have hv2 : Cl 13 3000 v2 := hv2.le (by decide) (by have := hv.2; omega)
          simp_arith [append_ (h.2 _ (List.mem_cons_self ..)).2 (show (ds ++ [v]).length ≤ 1000 by simp; omega)]
          replace h := h.push (es := ds ++ [v] ++ [v2]) hpq
          refine ⟨fun d hd => hr d (List.mem_cons_of_mem _ hd), ds ++ [v] ++ [v2], _, _, _, h, ?_, by simp; omega, rfl⟩
          intro d hd
          rcases List.mem_append.mp hd with hd | hd
          · rcases List.mem_append.mp hd with hd | hd
            · exact hds d hd
            · rw [List.mem_singleton.mp hd]; exact hv.le (by decide) (by decide)
          · rw [List.mem_singleton.mp hd]; exact hv2
        · rintro e S ⟨-, ds, x6, x7, x8, h, hds, hdl, rfl⟩
          simp only [List.length_nil] at hdl
          simp_arith []
          refine Wp.mono (oddL (by decide) h) ?_
          rintro o S1 ⟨ho, h⟩
          have hadd : addOp S1 (.ref p) (.lst [o]) = some (.lst (ds ++ [o])) := by
            simp only [addOp, asM, (h.2 _ (List.mem_cons_self ..)).2, Option.bind_some]
            rw [if_pos (Nat.le_trans (show _ ≤ 16 by simp only [List.length_cons, List.length_nil]; omega) (by decide))]
          simp_arith [hadd]
          refine Wp.turnsC_ (fun rest acc S => (∀ d ∈ rest, Cl 13 3000 d) ∧ ∀ d ∈ acc, d = .bl true) (Nat.lt_of_le_of_lt (show _ ≤ 16 by simp only [List.length_append, List.length_cons, List.length_nil]; omega) (by decide)) ⟨?_, by simp⟩ ?_ ?_
          · intro d hd
            rcases List.mem_append.mp hd with hd | hd
            · exact hds d hd
            · rw [List.mem_singleton.mp hd]; exact ho.le (by decide) (by decide)
          · rintro x rest acc S ⟨hx, hacc⟩
            simp_arith []
            refine Wp.mono (rightL (by decide) hN (hx x (List.mem_cons_self ..)) (by decide) (by decide)) ?_
            rintro _ S1 ⟨rfl, t, rfl⟩
            simp_arith []
            refine ⟨fun d hd => hx d (List.mem_cons_of_mem _ hd), ?_⟩
            intro d hd
            rcases List.mem_append.mp hd with hd | hd
            · exact hacc d hd
            · exact List.mem_singleton.mp hd
          · rintro acc S ⟨-, hacc⟩
            simp_arith [all_true hacc, Bool.not_true]
            exact ⟨hx', _, _, _, _, _, _, _, _, rfl⟩
  · rintro e S ⟨-, x1, x2, x3, x4, x5, x6, x7, x8, rfl⟩
    simp_arith [con32, con33, c_MAX_DEPTH, c_MAX_INSTRUCTIONS, hb, hrep, shw_end, BEq.rfl]
theorem plainLaw (ns : List Int) : ∃ S, callF pgl TURNS 200 n_law [.lck (ns.map D.int)] [] = .ok (.bl true) S := by
  obtain ⟨a, S, e, rfl⟩ := Wp.elim (lawL ns)
  exact ⟨S, e⟩
end K83
end
theorem PySem.Challenge.cw_exactroom_k83_expressions_holds : PySem.Challenge.rw_exactroom_k83_expressions.Holds := by
  exact K83.close fun ns hn => by rw [K83.pg_eq]; exact K83.plainLaw ns
