import PyProof.Rows.All
import Wide.All
import OpenK.AllK
import Wide.FinOn
import HandS.ForMost
import HandS.More
import HandS.Star
import HandS.MethStar
import HandS.ClsMeth
import HandS.Property
import HandS.IsInst
import HandS.FStr
import HandS.Style
import HandS.Deep
import HandS.Defaults
import HandS.Codes
import HandS.TupAny
import HandS.Flow
import HandS.Zip
import HandS.Conv
import HandS.TryOnly
import HandS.ExcOwn
import HandS.WordsExc
import HandS.ExcInit
import HandS.StrMore
import HandS.Head0
import HandS.Head1
import HandS.Head2
import HandS.HeadEnd
import HandS.HeadHook1
import HandS.HeadHook2
import HandS.HeadHook3
import HandS.SetBool
import HandS.SetKeys
import HandS.Strs
import KE.KCallOwn
import KE.KUnpackStar
import KE.GoesEnum
import HandS.HeadNt
import PySem.Challenge.RW_sharedrows_k64_sheets_edited
set_option Elab.async false
set_option linter.all false
set_option maxRecDepth 100000
set_option maxHeartbeats 4000000
/-! ## EV: a small evaluator over data, sound for the model (by the hand layer's rules) -/
namespace EV
open PySem

abbrev S := List Nat
/-- a list of codes as the model's text -/
def mk (s : S) : Str := ⟨s.toArray⟩
theorem mk_inj {a b : S} (h : mk a = mk b) : a = b := by
  have e := congrArg (fun z : Str => z.cps.toList) h
  simpa [mk] using e
theorem mk_app (a b : S) : mk a ++ mk b = mk (a ++ b) := by
  show (⟨a.toArray ++ b.toArray⟩ : Str) = ⟨(a ++ b).toArray⟩
  rw [List.append_toArray]
theorem mk_len (a : S) : (mk a).length = a.length := by
  show a.toArray.size = a.length
  simp
theorem mk_tl (a : S) : (mk a).cps.toList = a := by
  show a.toArray.toList = a
  simp
def okS (s : S) : Bool := decide (s.length ≤ 100000) && s.all fun c => decide (c < 128)

/-- data: what the evaluator reckons with. adr: an object of the small heap that may change; lst, obj, dct: objects that change no more -/
inductive D where
  | non
  | bl (b : Bool)
  | int (i : Int)
  | str (s : S)
  | tup (xs : List D)
  | lst (xs : List D)
  | dct (ks : List D) (vs : List D)
  | scr (ns : List Int)
  | adr (n : Nat)
  | obj (c : Nat) (fs : List (Nat × D))
  | rep (d : D)
  | kdc (ks : List D) (vs : List D)
  | cls (c : Nat)
  deriving Inhabited

/-- an object of the small heap -/
inductive MO where
  | lst (xs : List D)
  | dct (ks : List D) (vs : List D)
  | ins (c : Nat) (fs : List (Nat × D))
  deriving Inhabited
abbrev MH := List MO
abbrev En := List (Option D)

mutual
/-- as PySem's data, where it has one -/
def toP : D → Option PyData
  | .non => some .none
  | .bl b => some (.bool b)
  | .int i => some (.int i)
  | .str s => some (.str (mk s))
  | .tup xs => (toPs xs).map .tuple
  | .lst xs => (toPs xs).map .list
  | .dct _ _ => none
  | .scr _ => none
  | .adr _ => none
  | .obj _ _ => none
  | .rep _ => none
  | .kdc _ _ => none
  | .cls _ => none
def toPs : List D → Option (List PyData)
  | [] => some []
  | x :: xs => match toP x, toPs xs with
    | some a, some b => some (a :: b)
    | _, _ => none
end

mutual
/-- Python's == of data -/
def deq : D → D → Bool
  | .non, .non => true
  | .bl a, .bl b => a == b
  | .bl a, .int j => (if a then 1 else 0) == j
  | .int i, .bl b => i == (if b then 1 else 0)
  | .int i, .int j => i == j
  | .str x, .str y => x == y
  | .lst xs, .lst ys => deqs xs ys
  | .tup xs, .tup ys => deqs xs ys
  | _, _ => false
def deqs : List D → List D → Bool
  | [], [] => true
  | x :: xs, y :: ys => deq x y && deqs xs ys
  | _, _ => false
end
mutual
/-- the same data -/
def same : D → D → Bool
  | .non, .non => true
  | .bl a, .bl b => a == b
  | .int i, .int j => i == j
  | .str x, .str y => x == y
  | .lst xs, .lst ys => sames xs ys
  | .tup xs, .tup ys => sames xs ys
  | _, _ => false
def sames : List D → List D → Bool
  | [], [] => true
  | x :: xs, y :: ys => same x y && sames xs ys
  | _, _ => false
end
mutual
/-- data of None, truth values, ints, texts, tuples and lists, so deep at most -/
def plain : Nat → D → Bool
  | _, .non => true
  | _, .bl _ => true
  | _, .int _ => true
  | _, .str _ => true
  | n + 1, .tup xs => plains n xs
  | n + 1, .lst xs => plains n xs
  | _, _ => false
def plains : Nat → List D → Bool
  | _, [] => true
  | n, x :: xs => plain n x && plains n xs
end
def flat : D → Bool
  | .non => true
  | .bl _ => true
  | .int _ => true
  | .str _ => true
  | _ => false

/-- the items of a list or tuple -/
def seqD (h : MH) : D → Option (List D)
  | .tup xs => some xs
  | .lst xs => some xs
  | .scr ns => some (ns.map .int)
  | .adr n => match h[n]? with
    | some (.lst xs) => some xs
    | _ => none
  | _ => none
def lstD (h : MH) : D → Option (List D)
  | .lst xs => some xs
  | .adr n => match h[n]? with
    | some (.lst xs) => some xs
    | _ => none
  | _ => none
end EV

set_option Elab.async false
set_option linter.all false
set_option maxRecDepth 100000
set_option maxHeartbeats 4000000
namespace EV
open PySem

/-- built-in types for isinstance; a class of the program -/
inductive Ty where
  | str | int | bool | tuple | list | dict
  | cls (c : Nat)
/-- calls of built-ins by name -/
inductive Bi where
  | len | abs | min | max | any | all | list (fz : Bool) | tuple | strOf | intOf | sorted (fz : Bool) | repr | sum
/-- methods of built-in types -/
inductive Bm where
  | append | pop | insert | extend | index
  | partition | split | startswith | join | upper | isdigit | replace
  | dget | dgetD
inductive MG where
  | nm (i : Nat)
  | tp (is : List Nat)

inductive ME where
  | var (i : Nat)
  | cst (d : D)
  | glb (g : Nat)
  | tup (es : List ME)
  | lst (fz : Bool) (es : List ME)
  | dsp (fz : Bool) (ks vs : List ME)
  | bin (op : Operator) (a b : ME)
  | neg (a : ME)
  | nt (a : ME)
  | cmp (op : CmpOp) (a b : ME)
  | chn (op op' : CmpOp) (a b c : ME)
  | andE (es : List ME)
  | orE (es : List ME)
  | ife (c a b : ME)
  | idx (a i : ME)
  | slc (a : ME) (lo hi : Option ME)
  | rev (a : ME)
  | fst (es : List ME)
  | isi (a : ME) (ts : List Ty)
  | att (a : ME) (f : Nat)
  | call (f : Nat) (es : List ME)
  | meth (f : Nat) (o : ME) (es : List ME)
  | bif (b : Bi) (es : List ME)
  | bim (b : Bm) (o : ME) (es : List ME)
  | lc (fz : Bool) (g : MG) (it : ME) (ifs : List ME) (e : ME)
  -- what is walked, beside lists and tuples
  | rng1 (a : ME)
  | rng2 (a b : ME)
  | enm (a : ME)
  | zip (a b : ME)
  -- objects of own classes: C(..), C(*e) by a value, a property, a classmethod, str(o)
  | mk (c f : Nat) (es : List ME)
  | mkS (c f : Nat) (o e : ME)
  | prp (o : ME) (f : Nat)
  | cmt (c f : Nat) (es : List ME)
  | sob (o : ME) (f : Nat)
  -- len({e for g in it for g2 in it2})
  | lsc (g : MG) (it : ME) (g2 : MG) (it2 e : ME)
  -- what e makes changes no more
  | frz (e : ME)
  -- a class by its name, C(), len(o), o == p
  | gcl (c : Nat)
  | mk0 (c f : Nat)
  | lno (o : ME) (f : Nat)
  | eqo (f : Nat) (a b : ME)
  -- isinstance(a, C), C an own class
  | isc (a : ME) (c : Nat)
  -- o.m(.., k = e), k the one keyword-only parameter
  | kmt (f : Nat) (o : ME) (es : List ME) (e : ME)

inductive MS where
  | asg (g : MG) (e : ME)
  | par (is : List Nat) (es : List ME)
  | sset (o i e : ME)
  | fset (o : ME) (f : Nat) (e : ME)
  | ex (e : ME)
  | ast (is : List Nat) (j : Nat) (e : ME)
  | ret (e : ME)
  | ite (c : ME) (a b : List MS)
  | forS (g : MG) (it : ME) (body : List MS)
  | whl (c : ME) (body : List MS)
  | forE (g : MG) (a : ME) (body : List MS)
  | brk | cnt | pas | nev

/-- what a call gives: none where nothing is promised -/
abbrev Spec := List D → MH → Option (D × MH)
/-- what a body is run in: the calls' answers, the globals' values, turns for a while -/
structure Orc where
  call : Nat → Spec
  callK : Nat → Spec
  isF : Nat → Bool
  glb : Nat → D
  okF : Nat → Nat → Bool
  okM : Nat → Nat → Bool
  okX : Nat → Nat → Nat → Bool
  turns : Nat

def okL (n : Nat) : Bool := decide (n ≤ 1000000)

/-- operators -/
def binD (op : Operator) (x y : D) (h : MH) : Option D :=
  match op, x, y with
  | .Add, .int i, .int j => some (.int (i + j))
  | .Sub, .int i, .int j => some (.int (i - j))
  | .Mult, .int i, .int j => if decide (-(2 ^ 64) < i ∧ i < 2 ^ 64) || decide (-(2 ^ 64) < j ∧ j < 2 ^ 64) then some (.int (i * j)) else none
  | .FloorDiv, .int i, .int j => if decide (0 < j ∧ j < 1073741824) then some (.int (i / j)) else none
  | .Mod, .int i, .int j => if decide (0 < j) then some (.int (i % j)) else none
  | .Pow, .int i, .int j => if decide (0 ≤ j ∧ j ≤ 1000000 ∧ i.natAbs < 2 ^ 64) then some (.int (i ^ j.toNat)) else none
  | .Add, .str a, .str b => if okS (a ++ b) then some (.str (a ++ b)) else none
  | .Add, .tup a, .tup b => if okL (a.length + b.length) && !a.isEmpty && !b.isEmpty then some (.tup (a ++ b)) else none
  | .Add, a, b => match lstD h a, lstD h b with
    | some xs, some ys => if okL (xs.length + ys.length) then some (.lst (xs ++ ys)) else none
    | _, _ => none
  | .Mult, .lst xs, .int k => if decide (-(2 ^ 63) ≤ k ∧ k < 2 ^ 63) && okL (xs.length * k.toNat) then some (.lst (List.replicate k.toNat xs).flatten) else none
  | _, _, _ => none
/-- a list of the small heap, as it stands -/
def thaw (h : MH) (d : D) : D := match d with
  | .adr n => match h[n]? with
    | some (.lst xs) => .lst xs
    | _ => d
  | d => d
def keyD : D → Bool
  | .int _ => true
  | .str _ => true
  | _ => false
def look (k : D) : List D → List D → Option D
  | x :: xs, v :: vs => if deq x k then some v else look k xs vs
  | _, _ => none
def dctD (h : MH) : D → Option (List D × List D)
  | .dct ks vs => some (ks, vs)
  | .kdc ks vs => some (ks, vs)
  | .adr n => match h[n]? with
    | some (.dct ks vs) => some (ks, vs)
    | _ => none
  | _ => none
def inD (x y : D) (h : MH) : Option Bool :=
  match x, y with
  | .str [c], .str s => some (s.contains c)
  | x, y => match seqD h y with
    | some xs => if flat x && xs.all flat then some (xs.any fun z => deq z x) else match lstD h y with
      | some xs => if plain 60 x && plains 60 xs then some (xs.any fun z => deq z x) else none
      | none => none
    | none => match dctD h y with
      | some (ks, vs) => match x with
        | .str _ => some (look x ks vs).isSome
        | _ => none
      | none => none
def cmpI (f : Int → Int → Bool) : D → D → Option Bool
  | .int i, .int j => some (f i j)
  | _, _ => none
def isNonD : D → Bool
  | .non => true
  | _ => false
def isD : D → D → Option Bool
  | x, .non => some (isNonD x)
  | .bl a, .bl b => some (a == b)
  | _, _ => none
def isRep : D → Bool
  | .rep _ => true
  | _ => false
def repEq : D → D → Option Bool
  | .rep d, .rep e => if same d e then some true else none
  | _, _ => none
def cmpD (op : CmpOp) (x y : D) (h : MH) : Option Bool :=
  match op with
  | .Eq => if isRep x || isRep y then repEq x y else if plain 60 (thaw h x) && plain 60 (thaw h y) then some (deq (thaw h x) (thaw h y)) else none
  | .NotEq => if isRep x || isRep y then (repEq x y).map (!·) else if plain 60 (thaw h x) && plain 60 (thaw h y) then some (!deq (thaw h x) (thaw h y)) else none
  | .Lt => cmpI (fun i j => decide (i < j)) x y
  | .LtE => cmpI (fun i j => decide (i ≤ j)) x y
  | .Gt => cmpI (fun i j => decide (j < i)) x y
  | .GtE => cmpI (fun i j => decide (j ≤ i)) x y
  | .In => inD x y h
  | .NotIn => (inD x y h).map (!·)
  | .Is => isD x y
  | .IsNot => (isD x y).map (!·)
def truD (h : MH) : D → Option Bool
  | .non => some false
  | .bl b => some b
  | .int i => some (i != 0)
  | .str s => some (!s.isEmpty)
  | d => match seqD h d with
    | some xs => some (!xs.isEmpty)
    | none => none
/-- an index that may lie behind the end -/
def ix (n : Nat) (i : Int) : Option Nat := if 0 ≤ i then (if i < n then some i.toNat else none) else if -(n : Int) ≤ i then some (i + n).toNat else none
def idxD (x i : D) (h : MH) : Option D :=
  match x, i with
  | .str s, .int k => match ix s.length k with
    | some j => match s[j]? with
      | some c => some (.str [c])
      | none => none
    | none => none
  | x, i => match seqD h x with
    | some xs => match i with
      | .int k => match ix xs.length k with
        | some j => xs[j]?
        | none => none
      | _ => none
    | none => match dctD h x with
      | some (ks, vs) => if keyD i then look i ks vs else none
      | none => none
/-- a slice's end -/
def sx (n d : Nat) : Option Int → Nat
  | none => d
  | some i => if i < 0 then (i + n).toNat else min i.toNat n
def cut {α : Type} (xs : List α) (lo hi : Option Int) : List α := (xs.drop (sx xs.length 0 lo)).take (sx xs.length xs.length hi - sx xs.length 0 lo)
def slcD (x : D) (lo hi : Option Int) (h : MH) : Option D :=
  match x with
  | .str s => some (.str (cut s lo hi))
  | .tup xs => some (.tup (cut xs lo hi))
  | x => match lstD h x with
    | some xs => some (.lst (cut xs lo hi))
    | none => none
def insD (h : MH) : D → Option (Nat × List (Nat × D))
  | .obj c fs => some (c, fs)
  | .adr n => match h[n]? with
    | some (.ins c fs) => some (c, fs)
    | _ => none
  | _ => none
/-- the type's name -/
def dTy (h : MH) : D → Option String
  | .non => some "NoneType"
  | .bl _ => some "bool"
  | .int _ => some "int"
  | .str _ => some "str"
  | .rep _ => some "str"
  | .tup _ => some "tuple"
  | .lst _ => some "list"
  | .scr _ => some "list"
  | .dct _ _ => some "dict"
  | .kdc _ _ => some "dict"
  | .adr n => match h[n]? with
    | some (.lst _) => some "list"
    | some (.dct _ _) => some "dict"
    | _ => none
  | .obj _ _ => none
  | .cls _ => none
def tyS : Ty → Option String
  | .str => some "str"
  | .int => some "int"
  | .bool => some "bool"
  | .tuple => some "tuple"
  | .list => some "list"
  | .dict => some "dict"
  | .cls _ => none
def subT (a b : String) : Bool := a == b || (a == "bool" && b == "int")
def isT (h : MH) (d : D) (t : Ty) : Option Bool := match dTy h d, tyS t with
  | some a, some b => some (subT a b)
  | _, _ => none
def isTs (h : MH) (d : D) : List Ty → Option Bool
  | [] => some false
  | t :: ts => match isT h d t, isTs h d ts with
    | some a, some b => some (a || b)
    | _, _ => none
end EV

set_option Elab.async false
set_option linter.all false
set_option maxRecDepth 100000
set_option maxHeartbeats 4000000
namespace EV
open PySem

/-- a target takes a value -/
def setAll : List Nat → List D → En → Option En
  | [], [], σ => some σ
  | i :: is, v :: vs, σ => setAll is vs (σ.set i (some v))
  | _, _, _ => none
def takeG (g : MG) (v : D) (h : MH) (σ : En) : Option En := match g with
  | .nm i => some (σ.set i (some v))
  | .tp is => match seqD h v with
    | some xs => if xs.length = is.length then setAll is xs σ else none
    | none => none
def slotsG : MG → List Nat
  | .nm i => [i]
  | .tp is => is
/-- what a comprehension gathers -/
def gather (f : D → MH → Option (Option D × MH)) : List D → MH → List D → Option (List D × MH)
  | [], h, acc => some (acc, h)
  | x :: xs, h, acc => match f x h with
    | some (some y, h1) => if okL (acc.length + 1) then gather f xs h1 (acc ++ [y]) else none
    | some (none, h1) => gather f xs h1 acc
    | none => none
def newL (fz : Bool) (xs : List D) (h : MH) : D × MH := if fz then (.lst xs, h) else (.adr h.length, h ++ [.lst xs])
def newT (fz : Bool) (ks vs : List D) (h : MH) : D × MH := if fz then (.dct ks vs, h) else (.adr h.length, h ++ [.dct ks vs])
def distinct : List D → Bool
  | [] => true
  | k :: ks => !(ks.any fun z => deq z k) && distinct ks

def allB : List D → Option (List Bool)
  | [] => some []
  | .bl b :: r => (allB r).map (b :: ·)
  | _ => none
def allS : List D → Option (List S)
  | [] => some []
  | .str b :: r => (allS r).map (b :: ·)
  | _ => none
def allI : List D → Option (List Int)
  | [] => some []
  | .int b :: r => (allI r).map (b :: ·)
  | _ => none
/-- a number's text (of one that is not negative) -/
def numI (i : Int) : S := TL.numL i.toNat
/-- calls of built-ins -/
def lenB (h : MH) : List D → Option (D × MH)
  | [.str s] => some (.int s.length, h)
  | [d] => match seqD h d with
    | some xs => some (.int xs.length, h)
    | none => none
  | _ => none
def absB (h : MH) : List D → Option (D × MH)
  | [.int i] => some (.int (if i < 0 then -i else i), h)
  | _ => none
def minB (h : MH) : List D → Option (D × MH)
  | [.int i, .int j] => some (.int (if j < i then j else i), h)
  | _ => none
def maxB (h : MH) : List D → Option (D × MH)
  | [.int i, .int j] => some (.int (if j > i then j else i), h)
  | _ => none
def anyB (h : MH) : List D → Option (D × MH)
  | [d] => match lstD h d with
    | some xs => match allB xs with
      | some bs => some (.bl (bs.any id), h)
      | none => none
    | none => none
  | _ => none
def allBB (h : MH) : List D → Option (D × MH)
  | [d] => match lstD h d with
    | some xs => match allB xs with
      | some bs => some (.bl (bs.all id), h)
      | none => none
    | none => none
  | _ => none
def listB (fz : Bool) (h : MH) : List D → Option (D × MH)
  | [d] => match seqD h d with
    | some xs => some (newL fz xs h)
    | none => none
  | _ => none
def tupleB (h : MH) : List D → Option (D × MH)
  | [.tup xs] => some (.tup xs, h)
  | [d] => match lstD h d with
    | some xs => some (.tup xs, h)
    | none => none
  | _ => none
def strB (h : MH) : List D → Option (D × MH)
  | [.int i] => if decide (0 ≤ i ∧ i < 1000000000) then some (.str (numI i), h) else none
  | _ => none
def intR (i : Int) : Bool := decide ((PyData.shown (.int i)).length ≤ 100) && decide (i.natAbs.log2 < 1920)
mutual
/-- what repr serves -/
def okR : D → Bool
  | .non => true
  | .bl _ => true
  | .int i => intR i
  | .str s => okS s
  | .tup xs => okRs xs
  | .lst xs => okRs xs
  | _ => false
def okRs : List D → Bool
  | [] => true
  | x :: xs => okR x && okRs xs
end
mutual
def wt : D → Nat
  | .int i => i.natAbs.log2 + 1
  | .str s => s.length
  | .tup xs => wts xs
  | .lst xs => wts xs
  | _ => 0
def wts : List D → Nat
  | [] => 0
  | x :: xs => wt x + 1 + wts xs
end
def intB (h : MH) : List D → Option (D × MH)
  | [.int i] => some (.int i, h)
  | [.bl b] => some (.int (if b then 1 else 0), h)
  | _ => none
def repB (h : MH) : List D → Option (D × MH)
  | [d] => if plain 60 d && okR d && decide (wt d ≤ 100000) then some (.rep d, h) else none
  | _ => none
def bifD (b : Bi) (xs : List D) (h : MH) : Option (D × MH) :=
  match b with
  | .len => lenB h xs
  | .abs => absB h xs
  | .min => minB h xs
  | .max => maxB h xs
  | .any => anyB h xs
  | .all => allBB h xs
  | .list fz => listB fz h xs
  | .tuple => tupleB h xs
  | .strOf => strB h xs
  | .repr => repB h xs
  | .intOf => intB h xs
  | _ => none
/-- methods of built-in types -/
def appendM (h : MH) : D → List D → Option (D × MH)
  | .adr n, [v] => match h[n]? with
    | some (.lst ys) => if okL (ys.length + 1) then some (.non, h.set n (.lst (ys ++ [v]))) else none
    | _ => none
  | _, _ => none
def popM (h : MH) : D → List D → Option (D × MH)
  | .adr n, [.int i] => match h[n]? with
    | some (.lst ys) => match ix ys.length i with
      | some k => match ys[k]? with
        | some y => some (y, h.set n (.lst (ys.eraseIdx k)))
        | none => none
      | none => none
    | _ => none
  | _, _ => none
def insertM (h : MH) : D → List D → Option (D × MH)
  | .adr n, [.int i, v] => match h[n]? with
    | some (.lst ys) => if decide (0 ≤ i ∧ i ≤ ys.length) && okL (ys.length + 1) then some (.non, h.set n (.lst (ys.take i.toNat ++ v :: ys.drop i.toNat))) else none
    | _ => none
  | _, _ => none
def partitionM (h : MH) : D → List D → Option (D × MH)
  | .str a, [.str y] => if y.isEmpty then none else match TL.par y [] a with
    | some (l, r) => some (.tup [.str l, .str y, .str r], h)
    | none => some (.tup [.str a, .str [], .str []], h)
  | _, _ => none
def splitM (h : MH) : D → List D → Option (D × MH)
  | .str a, [.str y] => if y.isEmpty then none else some (.lst ((TL.spl y 0 [] a).map .str), h)
  | _, _ => none
def startswithM (h : MH) : D → List D → Option (D × MH)
  | .str a, [.str y] => some (.bl (TL.pre y a), h)
  | _, _ => none
def joinM (h : MH) : D → List D → Option (D × MH)
  | .str y, [d] => match lstD h d with
    | some xs => match allS xs with
      | some ss => if okS (TL.joinL y ss) && decide (ss.length ≤ 1000) && decide (y.length ≤ 1000) then some (.str (TL.joinL y ss), h) else none
      | none => none
    | none => none
  | _, _ => none
def isKd : D → Bool
  | .kdc _ _ => true
  | _ => false
def dgetDM (h : MH) : D → List D → Option (D × MH)
  | d, [k, v] => match dctD h d with
    | some (ks, vs) => if keyD k && !isKd d then some ((look k ks vs).getD v, h) else none
    | none => none
  | _, _ => none
def up (c : Nat) : Nat := if 97 ≤ c ∧ c ≤ 122 then c - 32 else c
def upperM (h : MH) : D → List D → Option (D × MH)
  | .str s, [] => some (.str (s.map up), h)
  | _, _ => none
def bimD (m : Bm) (o : D) (xs : List D) (h : MH) : Option (D × MH) :=
  match m with
  | .append => appendM h o xs
  | .pop => popM h o xs
  | .insert => insertM h o xs
  | .partition => partitionM h o xs
  | .split => splitM h o xs
  | .startswith => startswithM h o xs
  | .join => joinM h o xs
  | .upper => upperM h o xs
  | .dgetD => dgetDM h o xs
  | _ => none
/-- the receiver's type -/
def tyD (m : Bm) (x : D) (h : MH) : Bool := match m with
  | .append | .pop | .insert | .extend | .index => (lstD h x).isSome
  | .partition | .split | .startswith | .join | .upper | .isdigit | .replace => (match x with | .str _ => true | _ => false)
  | .dget | .dgetD => (match x with
    | .adr n => (match h[n]? with | some (.dct _ _) => true | _ => false)
    | .dct _ _ => true
    | _ => false)
/-- a text's part in an f-string -/
def fpart : D → Option S
  | .str s => some s
  | .int i => if decide (0 ≤ i ∧ i < 1000000000) then some (numI i) else none
  | _ => none

/-- what an expression means: its value, its truth, its items -/
structure Sm where
  v : En → MH → Option (D × MH)
  t : En → MH → Option (Bool × MH)
  w : En → MH → Option (List D × MH)
/-- truth, items of a value -/
def truS (v : En → MH → Option (D × MH)) (σ : En) (h : MH) : Option (Bool × MH) := match v σ h with
  | some (x, h1) => (truD h1 x).map fun b => (b, h1)
  | none => none
def itD (d : D) : Option (List D) := match d with
  | .str s => some (s.map fun c => .str [c])
  | .tup xs => some xs
  | .lst xs => some xs
  | .scr ns => some (ns.map .int)
  | _ => none
def itS (v : En → MH → Option (D × MH)) (σ : En) (h : MH) : Option (List D × MH) := match v σ h with
  | some (x, h1) => (itD x).map fun xs => (xs, h1)
  | none => none
def val (v : En → MH → Option (D × MH)) : Sm := ⟨v, truS v, itS v⟩
def noI : En → MH → Option (List D × MH) := fun _ _ => none
/-- a list of expressions -/
def evs : List Sm → En → MH → Option (List D × MH)
  | [], _, h => some ([], h)
  | e :: es, σ, h => match e.v σ h with
    | some (x, h1) => match evs es σ h1 with
      | some (xs, h2) => some (x :: xs, h2)
      | none => none
    | none => none
/-- pairs of a dict display -/
def evp : List Sm → List Sm → En → MH → Option (List D × List D × MH)
  | [], [], _, h => some ([], [], h)
  | k :: ks, v :: vs, σ, h => match k.v σ h with
    | some (a, h1) => match v.v σ h1 with
      | some (b, h2) => match evp ks vs σ h2 with
        | some (as, bs, h3) => some (a :: as, b :: bs, h3)
        | none => none
      | none => none
    | none => none
  | _, _, _, _ => none
/-- and, or as values: all but the last True or False -/
def andV : List Sm → En → MH → Option (D × MH)
  | [], _, _ => none
  | [e], σ, h => e.v σ h
  | e :: e2 :: es, σ, h => match e.v σ h with
    | some (.bl true, h1) => andV (e2 :: es) σ h1
    | some (.bl false, h1) => some (.bl false, h1)
    | _ => none
def orV : List Sm → En → MH → Option (D × MH)
  | [], _, _ => none
  | [e], σ, h => e.v σ h
  | e :: e2 :: es, σ, h => match e.v σ h with
    | some (.bl false, h1) => orV (e2 :: es) σ h1
    | some (.bl true, h1) => some (.bl true, h1)
    | _ => none
def andT : List Sm → En → MH → Option (Bool × MH)
  | [], _, _ => none
  | [e], σ, h => e.t σ h
  | e :: e2 :: es, σ, h => match e.t σ h with
    | some (true, h1) => andT (e2 :: es) σ h1
    | some (false, h1) => some (false, h1)
    | none => none
def orT : List Sm → En → MH → Option (Bool × MH)
  | [], _, _ => none
  | [e], σ, h => e.t σ h
  | e :: e2 :: es, σ, h => match e.t σ h with
    | some (false, h1) => orT (e2 :: es) σ h1
    | some (true, h1) => some (true, h1)
    | none => none
/-- a clause's tests: none or one -/
def tests : List Sm → En → MH → Option (Bool × MH)
  | [], _, h => some (true, h)
  | [e], σ, h => e.t σ h
  | _, _, _ => none
def part : Option Sm → En → MH → Option (Option Int × MH)
  | none, _, h => some (none, h)
  | some e, σ, h => match e.v σ h with
    | some (.int i, h1) => some (some i, h1)
    | _ => none
def fjoin : List Sm → S → En → MH → Option (S × MH)
  | [], acc, _, h => some (acc, h)
  | e :: es, acc, σ, h => match e.v σ h with
    | some (x, h1) => match fpart x with
      | some a => if okS (acc ++ a) then fjoin es (acc ++ a) σ h1 else none
      | none => none
    | none => none
/-- two values, then an operation -/
def two (a b : Sm) (f : D → D → MH → Option D) (σ : En) (h : MH) : Option (D × MH) := match a.v σ h with
  | some (x, h1) => match b.v σ h1 with
    | some (y, h2) => (f x y h2).map fun z => (z, h2)
    | none => none
  | none => none
def cmpB (op : CmpOp) (x y : D) (h : MH) : Option D := (cmpD op x y h).map .bl
def chain (op op' : CmpOp) (a b c : Sm) (σ : En) (h : MH) : Option (D × MH) := match a.v σ h with
  | some (x, h1) => match b.v σ h1 with
    | some (y, h2) => match cmpD op x y h2 with
      | some true => match c.v σ h2 with
        | some (z, h3) => (cmpB op' y z h3).map fun z => (z, h3)
        | none => none
      | some false => some (.bl false, h2)
      | none => none
    | none => none
  | none => none
def ifV (c a b : Sm) (σ : En) (h : MH) : Option (D × MH) := match c.t σ h with
  | some (true, h1) => a.v σ h1
  | some (false, h1) => b.v σ h1
  | none => none
def disp (fz : Bool) (ks vs : List Sm) (σ : En) (h : MH) : Option (D × MH) := match evp ks vs σ h with
  | some (kd, vd, h1) => if kd.all keyD && distinct kd && decide (kd.length ≤ 15) then some (newT fz kd vd h1) else none
  | none => none
def revS (a : En → MH → Option (D × MH)) (σ : En) (h : MH) : Option (D × MH) := match a σ h with
  | some (.lst xs, h1) => some (.lst xs.reverse, h1)
  | some (.tup xs, h1) => some (.tup xs.reverse, h1)
  | _ => none
def isiS (a : En → MH → Option (D × MH)) (ts : List Ty) (σ : En) (h : MH) : Option (D × MH) := match a σ h with
  | some (x, h1) => (isTs h1 x ts).map fun b => (.bl b, h1)
  | none => none
def wipeE (σ : En) : List Nat → En
  | [] => σ
  | v :: vs => (wipeE σ vs).set v none
def bifS (b : Bi) (es : List Sm) (σ : En) (h : MH) : Option (D × MH) := match evs es σ h with
  | some (ds, h1) => bifD b ds h1
  | none => none
def bimS (m : Bm) (o : Sm) (es : List Sm) (σ : En) (h : MH) : Option (D × MH) := match o.v σ h with
  | some (x, h1) => if tyD m x h1 then match evs es σ h1 with
      | some (ds, h2) => bimD m x ds h2
      | none => none
    else none
  | none => none
def gath (g : MG) (ifs : List Sm) (e : Sm) (σ : En) (x : D) (h : MH) : Option (Option D × MH) := match takeG g x h σ with
  | some σ1 => match tests ifs σ1 h with
    | some (true, h2) => match e.v σ1 h2 with
      | some (y, h3) => some (some y, h3)
      | none => none
    | some (false, h2) => some (none, h2)
    | none => none
  | none => none
def comp (fz : Bool) (g : MG) (it : Sm) (ifs : List Sm) (e : Sm) (σ : En) (h : MH) : Option (D × MH) := match it.w σ h with
  | some (xs, h1) => match gather (gath g ifs e (wipeE σ (slotsG g))) xs h1 [] with
    | some (ys, h2) => some (newL fz ys h2)
    | none => none
  | none => none

/-! ### a call's end: what is left behind, and changes no more -/
def eachM (f : D → Option D) : List D → Option (List D)
  | [] => some []
  | x :: xs => match f x, eachM f xs with
    | some y, some ys => some (y :: ys)
    | _, _ => none
/-- objects of the small heap behind N become data -/
def fz (N : Nat) (h : MH) : Nat → D → Option D
  | 0, _ => none
  | _ + 1, .non => some .non
  | _ + 1, .bl b => some (.bl b)
  | _ + 1, .int i => some (.int i)
  | _ + 1, .str s => some (.str s)
  | _ + 1, .scr ns => some (.scr ns)
  | _ + 1, .rep d => some (.rep d)
  | n + 1, .tup xs => (eachM (fz N h n) xs).map .tup
  | n + 1, .lst xs => (eachM (fz N h n) xs).map .lst
  | n + 1, .dct ks vs => (eachM (fz N h n) vs).map (.dct ks)
  | n + 1, .kdc ks vs => (eachM (fz N h n) vs).map (.kdc ks)
  | _ + 1, .cls c => some (.cls c)
  | n + 1, .obj c fs => (eachM (fz N h n) (fs.map (·.2))).map fun vs => .obj c ((fs.map (·.1)).zip vs)
  | n + 1, .adr a => if a < N then some (.adr a) else match h[a]? with
    | some (.lst xs) => (eachM (fz N h n) xs).map .lst
    | some (.dct ks vs) => (eachM (fz N h n) vs).map (.dct ks)
    | some (.ins c fs) => (eachM (fz N h n) (fs.map (·.2))).map fun vs => .obj c ((fs.map (·.1)).zip vs)
    | none => none
def fzO (N : Nat) (h : MH) (n : Nat) : MO → Option MO
  | .lst xs => (eachM (fz N h n) xs).map .lst
  | .dct ks vs => (eachM (fz N h n) vs).map (.dct ks)
  | .ins c fs => (eachM (fz N h n) (fs.map (·.2))).map fun vs => .ins c ((fs.map (·.1)).zip vs)
def eachO (f : MO → Option MO) : MH → Option MH
  | [] => some []
  | x :: xs => match f x, eachO f xs with
    | some y, some ys => some (y :: ys)
    | _, _ => none
def fin (sh : Bool) (N : Nat) (r : D × MH) : Option (D × MH) := if sh then match fz N r.2 12 r.1, eachO (fzO N r.2 12) (r.2.take N) with
  | some d, some h => some (d, h)
  | _, _ => none
  else some r
/-- an object is made: laid, then its __init__ -/
def mkR (c : Nat) (cal : Spec) (ds : List D) (h : MH) : Option (D × MH) := match cal (.adr h.length :: ds) (h ++ [.ins c []]) with
  | some (.non, h2) => some (.adr h.length, h2)
  | _ => none
def mkSS (c : Nat) (cal : Spec) (o e : Sm) (σ : En) (h : MH) : Option (D × MH) := match o.v σ h with
  | some (.cls c2, h1) => if c2 = c then match e.v σ h1 with
      | some (d, h2) => match seqD h2 d with
        | some xs => mkR c cal xs h2
        | none => none
      | none => none
    else none
  | _ => none
/-- a def is called at an object of class c -/
def atO (ok : Nat → Bool) (cal : Spec) (o : Sm) (σ : En) (h : MH) : Option (D × MH) := match o.v σ h with
  | some (x, h1) => match insD h1 x with
    | some (c, _) => if ok c then cal [x] h1 else none
    | none => none
  | none => none
def strS : Option (D × MH) → Option (D × MH)
  | some (.str s, h) => some (.str s, h)
  | _ => none
/-- texts gathered by two clauses -/
def gath1 (g : MG) (e : Sm) (σ : En) : List D → MH → List S → Option (List S × MH)
  | [], h, acc => some (acc, h)
  | y :: ys, h, acc => match takeG g y h σ with
    | some σ1 => match e.v σ1 h with
      | some (.str s, h1) => if decide (acc.length ≤ 1000) then gath1 g e σ ys h1 (if acc.contains s then acc else acc ++ [s]) else none
      | _ => none
    | none => none
def gath2 (g g2 : MG) (it2 e : Sm) (σ : En) : List D → MH → List S → Option (List S × MH)
  | [], h, acc => some (acc, h)
  | x :: xs, h, acc => match takeG g x h σ with
    | some σ1 => match it2.w σ1 h with
      | some (ys, h1) => match gath1 g2 e (wipeE σ1 (slotsG g2)) ys h1 acc with
        | some (acc1, h2) => gath2 g g2 it2 e σ xs h2 acc1
        | none => none
      | none => none
    | none => none
def lscS (g : MG) (it : Sm) (g2 : MG) (it2 e : Sm) (σ : En) (h : MH) : Option (D × MH) := match it.w σ h with
  | some (xs, h1) => match gath2 g g2 it2 e (wipeE σ (slotsG g ++ slotsG g2)) xs h1 [] with
    | some (acc, h2) => if decide (acc.length ≤ 1000) then some (.int acc.length, h2) else none
    | none => none
  | none => none

def intS : Option (D × MH) → Option (D × MH)
  | some (.int i, h) => if decide (0 ≤ i ∧ i < 2 ^ 62) then some (.int i, h) else none
  | _ => none
def eqoS (ok : Nat → Bool) (cal : Spec) (sa sb : Sm) (σ : En) (h : MH) : Option (D × MH) := match sa.v σ h with
  | some (x, h1) => match sb.v σ h1 with
    | some (y, h2) => match insD h2 x, insD h2 y with
      | some (c, _), some (c2, _) => if c = c2 && ok c then (match cal [x, y] h2 with
          | some (.bl z, h3) => some (.bl z, h3)
          | _ => none) else none
      | _, _ => none
    | none => none
  | none => none
def iscS (ok : Nat → Bool) (c : Nat) (sa : Sm) (σ : En) (h : MH) : Option (D × MH) := match sa.v σ h with
  | some (x, h1) => if ok c then (match insD h1 x with
      | some (c2, _) => if c2 = c then some (.bl true, h1) else none
      | none => match dTy h1 x with
        | some _ => some (.bl false, h1)
        | none => none) else none
  | none => none
mutual
def sem (O : Orc) : ME → Sm
  | .var i => val fun σ h => match σ[i]? with
    | some (some d) => some (d, h)
    | _ => none
  | .cst d => val fun _ h => some (d, h)
  | .glb g => val fun _ h => some (O.glb g, h)
  | .tup es => val fun σ h => match evs (sems O es) σ h with
    | some (ds, h1) => if okL ds.length then some (.tup ds, h1) else none
    | none => none
  | .lst fz es => val fun σ h => match evs (sems O es) σ h with
    | some (ds, h1) => if okL ds.length then some (newL fz ds h1) else none
    | none => none
  | .dsp fz ks vs => val (disp fz (sems O ks) (sems O vs))
  | .bin op a b => val (two (sem O a) (sem O b) (binD op))
  | .neg a => val fun σ h => match (sem O a).v σ h with
    | some (.int i, h1) => some (.int (-i), h1)
    | _ => none
  | .nt a =>
    { v := fun σ h => match truS (sem O a).v σ h with
        | some (b, h1) => some (.bl (!b), h1)
        | none => none
      t := fun σ h => match (sem O a).t σ h with
        | some (b, h1) => some (!b, h1)
        | none => none
      w := noI }
  | .cmp op a b => val (two (sem O a) (sem O b) (cmpB op))
  | .chn op op' a b c => val (chain op op' (sem O a) (sem O b) (sem O c))
  | .andE es => ⟨andV (sems O es), andT (sems O es), noI⟩
  | .orE es => ⟨orV (sems O es), orT (sems O es), noI⟩
  | .ife c a b => ⟨ifV (sem O c) (sem O a) (sem O b), fun _ _ => none, itS (ifV (sem O c) (sem O a) (sem O b))⟩
  | .idx a i => val (two (sem O a) (sem O i) idxD)
  | .slc a lo hi => val fun σ h => match (sem O a).v σ h with
    | some (x, h1) => match part (semo O lo) σ h1 with
      | some (l, h2) => match part (semo O hi) σ h2 with
        | some (u, h3) => (slcD x l u h3).map fun z => (z, h3)
        | none => none
      | none => none
    | none => none
  | .rev a => val (revS (sem O a).v)
  | .fst es => val fun σ h => match fjoin (sems O es) [] σ h with
    | some (s, h1) => some (.str s, h1)
    | none => none
  | .isi a ts => val (isiS (sem O a).v ts)
  | .att a f => val fun σ h => match (sem O a).v σ h with
    | some (x, h1) => match insD h1 x with
      | some (c, fs) => if O.okF c f && fs.all (fun q => O.okF c q.1) then (fs.lookup f).map fun v => (v, h1) else none
      | none => none
    | none => none
  | .call f es => val fun σ h => if O.isF f then match evs (sems O es) σ h with
      | some (ds, h1) => O.call f ds h1
      | none => none
    else none
  | .meth f o es => val fun σ h => match (sem O o).v σ h with
    | some (x, h1) => match insD h1 x with
      | some (c, fs) => if O.okM c f && fs.all (fun q => O.okF c q.1) then match evs (sems O es) σ h1 with
          | some (ds, h2) => O.call f (x :: ds) h2
          | none => none
        else none
      | none => none
    | none => none
  | .bif b es => val (bifS b (sems O es))
  | .bim m o es => val (bimS m (sem O o) (sems O es))
  | .lc fz g it ifs e => val (comp fz g (sem O it) (sems O ifs) (sem O e))
  | .rng1 a => ⟨fun _ _ => none, fun _ _ => none, fun σ h => match (sem O a).v σ h with
    | some (.int n, h1) => if decide (-(2 ^ 62) ≤ n ∧ n < 2 ^ 62) then some ((List.range n.toNat).map fun (i : Nat) => D.int (0 + i), h1) else none
    | _ => none⟩
  | .rng2 a b => ⟨fun _ _ => none, fun _ _ => none, fun σ h => match (sem O a).v σ h with
    | some (.int m, h1) => match (sem O b).v σ h1 with
      | some (.int n, h2) => if decide (-(2 ^ 62) ≤ m ∧ m < 2 ^ 62 ∧ -(2 ^ 62) ≤ n ∧ n < 2 ^ 62) then some ((List.range (n - m).toNat).map fun (i : Nat) => D.int (m + i), h2) else none
      | _ => none
    | _ => none⟩
  | .enm a => ⟨fun _ _ => none, fun _ _ => none, fun σ h => match (sem O a).v σ h with
    | some (.tup xs, h1) => some (xs.zipIdx.map fun p => .tup [.int p.2, p.1], h1)
    | _ => none⟩
  | .zip a b => ⟨fun _ _ => none, fun _ _ => none, fun σ h => match (sem O a).w σ h with
    | some (xs, h1) => match (sem O b).w σ h1 with
      | some (ys, h2) => some ((xs.zip ys).map fun p => .tup [p.1, p.2], h2)
      | none => none
    | none => none⟩
  | .mk c f es => val fun σ h => if O.okX 0 c f then match evs (sems O es) σ h with
      | some (ds, h1) => mkR c (O.call f) ds h1
      | none => none
    else none
  | .mkS c f o e => val fun σ h => if O.okX 0 c f then mkSS c (O.call f) (sem O o) (sem O e) σ h else none
  | .prp o f => val (atO (fun c => O.okX 1 c f) (O.call f) (sem O o))
  | .cmt c f es => val fun σ h => if O.okX 2 c f then match evs (sems O es) σ h with
      | some (ds, h1) => O.call f (.cls c :: ds) h1
      | none => none
    else none
  | .sob o f => val fun σ h => strS (atO (fun c => O.okX 3 c f) (O.call f) (sem O o) σ h)
  | .lsc g it g2 it2 e => val (lscS g (sem O it) g2 (sem O it2) (sem O e))
  | .frz e => val fun σ h => match (sem O e).v σ h with
    | some r => fin true h.length r
    | none => none
  | .gcl c => val fun _ h => some (.cls c, h)
  | .mk0 c f => val fun _ h => if O.okX 0 c f then mkR c (O.call f) [] h else none
  | .lno o f => val fun σ h => intS (atO (fun c => O.okX 4 c f) (O.call f) (sem O o) σ h)
  | .eqo f a b => val (eqoS (fun c => O.okX 5 c f) (O.call f) (sem O a) (sem O b))
  | .isc a c => val (iscS (fun c => O.okX 6 c 0) c (sem O a))
  | .kmt f o es e => val fun σ h => match (sem O o).v σ h with
    | some (x, h1) => match insD h1 x with
      | some (c, fs) => if O.okM c f && fs.all (fun q => O.okF c q.1) then match evs (sems O es) σ h1 with
          | some (ds, h2) => match (sem O e).v σ h2 with
            | some (y, h3) => O.callK f (x :: (ds ++ [y])) h3
            | none => none
          | none => none
        else none
      | none => none
    | none => none
termination_by structural m => m
def sems (O : Orc) : List ME → List Sm
  | [] => []
  | e :: es => sem O e :: sems O es
termination_by structural m => m
def semo (O : Orc) : Option ME → Option Sm
  | none => none
  | some e => some (sem O e)
termination_by structural m => m
end
example (O : Orc) (op : Operator) (a b : ME) : sem O (.bin op a b) = val (two (sem O a) (sem O b) (binD op)) := rfl

inductive Fl where
  | nx | bk | ct | rt (d : D)

/-- for, over items that stand still -/
def loop (f : D → En → MH → Option (Fl × En × MH)) : List D → En → MH → Option (Fl × En × MH)
  | [], σ, h => some (.nx, σ, h)
  | x :: xs, σ, h => match f x σ h with
    | some (.nx, σ1, h1) => loop f xs σ1 h1
    | some (.ct, σ1, h1) => loop f xs σ1 h1
    | some (.bk, σ1, h1) => some (.nx, σ1, h1)
    | some (.rt d, σ1, h1) => some (.rt d, σ1, h1)
    | none => none
def wloop (c : En → MH → Option (Bool × MH)) (f : En → MH → Option (Fl × En × MH)) : Nat → En → MH → Option (Fl × En × MH)
  | 0, _, _ => none
  | n + 1, σ, h => match c σ h with
    | some (false, h1) => some (.nx, σ, h1)
    | some (true, h1) => match f σ h1 with
      | some (.nx, σ1, h2) => wloop c f n σ1 h2
      | some (.ct, σ1, h2) => wloop c f n σ1 h2
      | some (.bk, σ1, h2) => some (.nx, σ1, h2)
      | some (.rt d, σ1, h2) => some (.rt d, σ1, h2)
      | none => none
    | none => none
def putFd (f : Nat) (v : D) : List (Nat × D) → List (Nat × D)
  | [] => [(f, v)]
  | (g, x) :: r => if g = f then (g, v) :: r else (g, x) :: putFd f v r
mutual
def exec (O : Orc) : MS → En → MH → Option (Fl × En × MH)
  | .asg g e, σ, h => match (sem O e).v σ h with
    | some (x, h1) => match takeG g x h1 σ with
      | some σ1 => some (.nx, σ1, h1)
      | none => none
    | none => none
  | .par is es, σ, h => match evs (sems O es) σ h with
    | some (xs, h1) => match setAll is xs σ with
      | some σ1 => some (.nx, σ1, h1)
      | none => none
    | none => none
  | .sset o i e, σ, h => match (sem O e).v σ h with
    | some (v, h1) => match (sem O o).v σ h1 with
      | some (.adr n, h2) => match (sem O i).v σ h2 with
        | some (.int k, h3) => match h3[n]? with
          | some (.lst xs) => match ix xs.length k with
            | some j => some (.nx, σ, h3.set n (.lst (xs.set j v)))
            | none => none
          | _ => none
        | _ => none
      | _ => none
    | none => none
  | .fset o f e, σ, h => match (sem O e).v σ h with
    | some (v, h1) => match (sem O o).v σ h1 with
      | some (.adr n, h2) => match h2[n]? with
        | some (.ins c fs) => if decide (fs.length < 1000) && (O.okF c f && fs.all (fun q => O.okF c q.1)) then some (.nx, σ, h2.set n (.ins c (putFd f v fs))) else none
        | _ => none
      | _ => none
    | none => none
  | .ast is j e, σ, h => match (sem O e).v σ h with
    | some (.tup xs, h1) => if is.length ≤ xs.length then match setAll (is ++ [j]) (xs.take is.length ++ [.lst (xs.drop is.length)]) σ with
        | some σ1 => some (.nx, σ1, h1)
        | none => none
      else none
    | _ => none
  | .ex e, σ, h => match (sem O e).v σ h with
    | some (_, h1) => some (.nx, σ, h1)
    | none => none
  | .ret e, σ, h => match (sem O e).v σ h with
    | some (x, h1) => some (.rt x, σ, h1)
    | none => none
  | .ite c a b, σ, h => match (sem O c).t σ h with
    | some (true, h1) => execs O a σ h1
    | some (false, h1) => execs O b σ h1
    | none => none
  | .forS g it body, σ, h => match (sem O it).w σ h with
    | some (xs, h1) => loop (fun x σ h => match takeG g x h σ with
        | some σ1 => execs O body σ1 h
        | none => none) xs σ h1
    | none => none
  | .forE g a body, σ, h => match (sem O (.enm a)).w σ h with
    | some (xs, h1) => loop (fun x σ h => match takeG g x h σ with
        | some σ1 => execs O body σ1 h
        | none => none) xs σ h1
    | none => none
  | .whl c body, σ, h => wloop (fun σ h => (sem O c).t σ h) (fun σ h => execs O body σ h) O.turns σ h
  | .brk, σ, h => some (.bk, σ, h)
  | .cnt, σ, h => some (.ct, σ, h)
  | .pas, σ, h => some (.nx, σ, h)
  | .nev, _, _ => none
def execs (O : Orc) : List MS → En → MH → Option (Fl × En × MH)
  | [], σ, h => some (.nx, σ, h)
  | s :: ss, σ, h => match exec O s σ h with
    | some (.nx, σ1, h1) => execs O ss σ1 h1
    | r => r
end
/-- a def's body at its arguments -/
def runD (O : Orc) (n : Nat) (body : List MS) (args : List D) (h : MH) : Option (D × MH) :=
  match execs O body (args.map some ++ List.replicate (n - args.length) none) h with
  | some (.rt d, _, h1) => some (d, h1)
  | some (.nx, _, h1) => some (.non, h1)
  | _ => none
end EV

set_option Elab.async false
set_option linter.all false
set_option maxRecDepth 100000
set_option maxHeartbeats 4000000
namespace EV
open PySem PySem.Spec PyProof.Rows L2

/-- what names stand for: the written part, the world, the classes' addresses, the fields' names -/
structure Cn where
  K : PySem.W.Frag
  w : World
  cA : Nat → Addr
  fA : Nat → Addr
  fN : Nat → Str
/-- where the small heap's objects stand; what changes besides (a list that a comprehension gathers) -/
structure Rho where
  to : Nat → Option Addr
  hid : Addr → Prop
instance : CoeFun Rho (fun _ => Nat → Option Addr) := ⟨Rho.to⟩
def Off (ρ : Rho) (a : Addr) : Prop := (∀ n, ρ n ≠ some a) ∧ ¬ ρ.hid a
def keyV : D → Option Key
  | .int i => some (.inl i)
  | .str s => some (.inr (mk s))
  | _ => none
def lookS (z : S) : List (S × V) → Option V
  | [] => none
  | (k, v) :: r => if k = z then some v else lookS z r
/-- a dict of the written part with text keys -/
structure DctW (K : PySem.W.Frag) (w : World) (a : Addr) (kvs : List (S × V)) : Prop where
  at_ : ∃ es n, KDict K w a es n
  get : ∀ z : S, match lookS z kvs with
    | some v => ∃ u, PySem.W.nsIn K a (mk z) = some (some u) ∧ RelV v u
    | none => PySem.W.nsIn K a (mk z) = some none

mutual
inductive RD (C : Cn) (ρ : Rho) (H : Hp) : D → V → Prop
  | non : RD C ρ H .non .non
  | bl (b : Bool) : RD C ρ H (.bl b) (.bl b)
  | int (i : Int) : RD C ρ H (.int i) (.int i)
  | str (s : S) : okS s = true → RD C ρ H (.str s) (.str (mk s))
  | tup {a : Addr} {vs : List V} {ds : List D} : Rd H a (.tup vs) → Off ρ a → RDs C ρ H ds vs → RD C ρ H (.tup ds) (.ref a)
  | tupK {a : Addr} {vs : List V} {ds : List D} {o : Obj} {its : Array Value} {n : Nat} : C.K.lookup a = some o → o.cls = .type "tuple" → o.data = .seq its n → its.size ≤ sizeLine → Vals vs its.toList → RDs C ρ H ds vs → RD C ρ H (.tup ds) (.ref a)
  | lst {a : Addr} {vs : List V} {ds : List D} : H a = some (.lst vs) → Off ρ a → RDs C ρ H ds vs → RD C ρ H (.lst ds) (.ref a)
  | scr {a : Addr} {o : Obj} {ns : List Int} : H a = some (.frz o (.lst (ns.map V.int))) → Off ρ a → RD C ρ H (.scr ns) (.ref a)
  | scrK {a : Addr} {ns : List Int} {o : Obj} {its : Array Value} {n : Nat} : C.K.lookup a = some o → o.cls = .type "list" → o.dict = none → o.data = .seq its n → its.size ≤ sizeLine → Vals (ns.map V.int) its.toList → RD C ρ H (.scr ns) (.ref a)
  | adr {n : Nat} {a : Addr} : ρ n = some a → RD C ρ H (.adr n) (.ref a)
  | dct {a : Addr} {kvs : List (Key × V)} {ks vs : List D} : H a = some (.dK kvs) → Off ρ a → ks.map keyV = kvs.map (fun q => some q.1) → RDs C ρ H vs (kvs.map (·.2)) → RD C ρ H (.dct ks vs) (.ref a)
  | dctK {a : Addr} {kvs : List (S × V)} {ks vs : List D} : DctW C.K C.w a kvs → ks = kvs.map (fun q => D.str q.1) → RDs C ρ H vs (kvs.map (·.2)) → RD C ρ H (.kdc ks vs) (.ref a)
  | obj {c : Nat} {a dx : Addr} {fvs : List (Str × V)} {fs : List (Nat × D)} : H a = some (.ins (C.cA c) dx fvs) → Off ρ a → fs.map (fun q => C.fN q.1) = fvs.map (·.1) → RDs C ρ H (fs.map (·.2)) (fvs.map (·.2)) → RD C ρ H (.obj c fs) (.ref a)
  | rep {d : D} {p : PyData} : toP d = some p → RD C ρ H (.rep d) (.str p.shown)
  | cls (c : Nat) : RD C ρ H (.cls c) (.ref (C.cA c))
inductive RDs (C : Cn) (ρ : Rho) (H : Hp) : List D → List V → Prop
  | nil : RDs C ρ H [] []
  | cons {d : D} {ds : List D} {v : V} {vs : List V} : RD C ρ H d v → RDs C ρ H ds vs → RDs C ρ H (d :: ds) (v :: vs)
end

/-- what stands as it stood (but for P) -/
structure Exw (P : Addr → Prop) (ρ : Rho) (H : Hp) (ρ' : Rho) (H' : Hp) : Prop where
  sub : ∀ n a, ρ n = some a → ρ' n = some a
  new : ∀ n a, ρ n = none → ρ' n = some a → H a = none
  keep : ∀ a o, H a = some o → (∀ n, ρ n ≠ some a) → ¬ P a → H' a = some o
  live : ∀ a, H' a = none → H a = none
  hid : ρ'.hid = ρ.hid
abbrev Ext := Exw fun _ => False
theorem Ext.refl (ρ : Rho) (H : Hp) : Ext ρ H ρ H where
  sub := fun _ _ h => h
  new := fun n a h h' => nomatch (h.symm.trans h' : (none : Option Addr) = some a)
  keep := fun _ _ h _ _ => h
  live := fun _ h => h
  hid := rfl
section
variable {C : Cn} {P : Addr → Prop} {ρ ρ' ρ'' : Rho} {H H' H'' : Hp}
theorem Exw.offn (x : Exw P ρ H ρ' H') {a : Addr} {o : HO} (h : H a = some o) (n : ∀ n, ρ n ≠ some a) : ∀ n, ρ' n ≠ some a := fun m e => by
    cases q : ρ m with
    | none => rw [x.new m a q e] at h; cases h
    | some c =>
      have := x.sub m c q
      rw [this] at e
      cases e
      exact n m q
theorem Exw.off (x : Exw P ρ H ρ' H') {a : Addr} {o : HO} (h : H a = some o) (n : Off ρ a) : Off ρ' a := ⟨x.offn h n.1, by rw [x.hid]; exact n.2⟩
theorem Exw.trans (x : Exw P ρ H ρ' H') (y : Exw P ρ' H' ρ'' H'') : Exw P ρ H ρ'' H'' where
  sub := fun n a h => y.sub n a (x.sub n a h)
  new := fun n a h h' => by
    cases q : ρ' n with
    | none => exact x.live a (y.new n a q h')
    | some c =>
      have := y.sub n c q
      rw [this] at h'
      cases h'
      exact x.new n _ h q
  keep := fun a o h n p => y.keep a o (x.keep a o h n p) (x.offn h n) p
  live := fun a h => x.live a (y.live a h)
  hid := y.hid.trans x.hid
theorem Exw.weak (x : Ext ρ H ρ' H') : Exw P ρ H ρ' H' := ⟨x.sub, x.new, fun a o h n _ => x.keep a o h n id, x.live, x.hid⟩
/-- what is said of data stays true -/
structure Tr (ρ : Rho) (H : Hp) (ρ' : Rho) (H' : Hp) : Prop where
  sub : ∀ n a, ρ n = some a → ρ' n = some a
  keep : ∀ a o, H a = some o → Off ρ a → H' a = some o
  off : ∀ {a o}, H a = some o → Off ρ a → Off ρ' a
theorem Exw.tr (x : Exw P ρ H ρ' H') (hp : ∀ a, P a → ρ.hid a) : Tr ρ H ρ' H' := ⟨x.sub, fun a o h n => x.keep a o h n.1 fun z => n.2 (hp a z), fun h n => x.off h n⟩
theorem Ext.tr (x : Ext ρ H ρ' H') : Tr ρ H ρ' H' := Exw.tr x fun _ z => z.elim
theorem Tr.trans (x : Tr ρ H ρ' H') (y : Tr ρ' H' ρ'' H'') : Tr ρ H ρ'' H'' := ⟨fun n a h => y.sub n a (x.sub n a h), fun a o h n => y.keep a o (x.keep a o h n) (x.off h n), fun h n => y.off (x.keep _ _ h n) (x.off h n)⟩
mutual
theorem RD.tr (x : Tr ρ H ρ' H') : ∀ {d : D} {v : V}, RD C ρ H d v → RD C ρ' H' d v
  | _, _, .non => .non
  | _, _, .bl b => .bl b
  | _, _, .int i => .int i
  | _, _, .str s h => .str s h
  | _, _, .tup h n r => by
    rcases h with h | ⟨o, h⟩
    · exact .tup (.inl (x.keep _ _ h n)) (x.off h n) (RDs.tr x r)
    · exact .tup (.inr ⟨o, x.keep _ _ h n⟩) (x.off h n) (RDs.tr x r)
  | _, _, .tupK a b c d e r => .tupK a b c d e (RDs.tr x r)
  | _, _, .lst h n r => .lst (x.keep _ _ h n) (x.off h n) (RDs.tr x r)
  | _, _, .scr h n => .scr (x.keep _ _ h n) (x.off h n)
  | _, _, .scrK a b c d e f => .scrK a b c d e f
  | _, _, .adr h => .adr (x.sub _ _ h)
  | _, _, .dct h n k r => .dct (x.keep _ _ h n) (x.off h n) k (RDs.tr x r)
  | _, _, .dctK h k r => .dctK h k (RDs.tr x r)
  | _, _, .obj h n k r => .obj (x.keep _ _ h n) (x.off h n) k (RDs.tr x r)
  | _, _, .rep h => .rep h
  | _, _, .cls c => .cls c
theorem RDs.tr (x : Tr ρ H ρ' H') : ∀ {ds : List D} {vs : List V}, RDs C ρ H ds vs → RDs C ρ' H' ds vs
  | _, _, .nil => .nil
  | _, _, .cons h r => .cons (RD.tr x h) (RDs.tr x r)
end
theorem RD.mono (x : Ext ρ H ρ' H') {d : D} {v : V} (r : RD C ρ H d v) : RD C ρ' H' d v := r.tr (Ext.tr x)
theorem RDs.mono (x : Ext ρ H ρ' H') {d : List D} {v : List V} (r : RDs C ρ H d v) : RDs C ρ' H' d v := r.tr (Ext.tr x)
theorem RDs.len : ∀ {ds : List D} {vs : List V}, RDs C ρ H ds vs → ds.length = vs.length
  | _, _, .nil => rfl
  | _, _, .cons _ r => by rw [List.length_cons, List.length_cons, RDs.len r]
theorem RDs.get : ∀ {ds : List D} {vs : List V} {i : Nat} {d : D}, RDs C ρ H ds vs → ds[i]? = some d → ∃ v, vs[i]? = some v ∧ RD C ρ H d v
  | _, _, _, _, .nil, h => by simp at h
  | _, _, 0, _, .cons h _, e => by simp at e; subst e; exact ⟨_, rfl, h⟩
  | _, _, i + 1, d, .cons _ r, e => by
    obtain ⟨v, h1, h2⟩ := RDs.get (i := i) (d := d) r (by simpa using e)
    exact ⟨v, by simpa using h1, h2⟩
theorem RDs.app : ∀ {ds es : List D} {vs ws : List V}, RDs C ρ H ds vs → RDs C ρ H es ws → RDs C ρ H (ds ++ es) (vs ++ ws)
  | _, _, _, _, .nil, s => s
  | _, _, _, _, .cons h r, s => .cons h (RDs.app r s)
theorem RDs.rep {ds : List D} {vs : List V} (r : RDs C ρ H ds vs) : ∀ n : Nat, RDs C ρ H (List.replicate n ds).flatten (List.replicate n vs).flatten
  | 0 => .nil
  | n + 1 => by
    rw [List.replicate_succ, List.replicate_succ, List.flatten_cons, List.flatten_cons]
    exact RDs.app r (RDs.rep r n)
theorem RDs.take : ∀ {ds : List D} {vs : List V} (n : Nat), RDs C ρ H ds vs → RDs C ρ H (ds.take n) (vs.take n)
  | _, _, 0, _ => .nil
  | _, _, _ + 1, .nil => .nil
  | _, _, n + 1, .cons h r => .cons h (RDs.take n r)
theorem RDs.drop : ∀ {ds : List D} {vs : List V} (n : Nat), RDs C ρ H ds vs → RDs C ρ H (ds.drop n) (vs.drop n)
  | _, _, 0, r => r
  | _, _, _ + 1, .nil => .nil
  | _, _, n + 1, .cons _ r => RDs.drop n r
theorem RDs.erase : ∀ {ds : List D} {vs : List V} (n : Nat), RDs C ρ H ds vs → RDs C ρ H (ds.eraseIdx n) (vs.eraseIdx n)
  | _, _, _, .nil => .nil
  | _, _, 0, .cons _ r => r
  | _, _, n + 1, .cons h r => .cons h (RDs.erase n r)
theorem RDs.put {d : D} {v : V} (h : RD C ρ H d v) : ∀ {ds : List D} {vs : List V} (n : Nat), RDs C ρ H ds vs → RDs C ρ H (ds.set n d) (vs.set n v)
  | _, _, _, .nil => .nil
  | _, _, 0, .cons _ r => .cons h r
  | _, _, n + 1, .cons q r => .cons q (RDs.put h n r)
theorem RDs.rev {ds : List D} {vs : List V} (h : RDs C ρ H ds vs) : RDs C ρ H ds.reverse vs.reverse := by
  induction ds generalizing vs with
  | nil => cases h; exact .nil
  | cons d ds ih =>
    cases h with
    | cons h r =>
      rw [List.reverse_cons, List.reverse_cons]
      exact (ih r).app (.cons h .nil)
theorem RDs.one {d : D} {vs : List V} (h : RDs C ρ H [d] vs) : ∃ v, vs = [v] ∧ RD C ρ H d v := by
  cases h with | cons h r => cases r; exact ⟨_, rfl, h⟩
theorem RDs.two {d e : D} {vs : List V} (h : RDs C ρ H [d, e] vs) : ∃ v w, vs = [v, w] ∧ RD C ρ H d v ∧ RD C ρ H e w := by
  cases h with | cons h r => obtain ⟨w, rfl, q⟩ := r.one; exact ⟨_, _, rfl, h, q⟩

/-- the small heap's objects at the model's addresses -/
def OR (C : Cn) (ρ : Rho) (H : Hp) : MO → HO → Prop
  | .lst xs, o => ∃ vs, o = .lst vs ∧ RDs C ρ H xs vs
  | .dct ks vs, o => ∃ kvs, o = .dK kvs ∧ ks.map keyV = kvs.map (fun q => some q.1) ∧ RDs C ρ H vs (kvs.map (·.2))
  | .ins c fs, o => ∃ dx fvs, o = .ins (C.cA c) dx fvs ∧ fs.map (fun q => C.fN q.1) = fvs.map (·.1) ∧ RDs C ρ H (fs.map (·.2)) (fvs.map (·.2))
theorem OR.tr (x : Tr ρ H ρ' H') {o : MO} {u : HO} (h : OR C ρ H o u) : OR C ρ' H' o u := by
  cases o with
  | lst xs => obtain ⟨vs, e, r⟩ := h; exact ⟨vs, e, r.tr x⟩
  | dct ks vs => obtain ⟨kvs, e, k, r⟩ := h; exact ⟨kvs, e, k, r.tr x⟩
  | ins c fs => obtain ⟨dx, fvs, e, k, r⟩ := h; exact ⟨dx, fvs, e, k, r.tr x⟩
theorem OR.mono (x : Ext ρ H ρ' H') {o : MO} {u : HO} (h : OR C ρ H o u) : OR C ρ' H' o u := h.tr (Ext.tr x)
structure HR (C : Cn) (ρ : Rho) (H : Hp) (h : MH) : Prop where
  dom : ∀ n, n < h.length → ∃ a, ρ n = some a
  rng : ∀ n a, ρ n = some a → n < h.length
  inj : ∀ n m a, ρ n = some a → ρ m = some a → n = m
  obj : ∀ n a o, ρ n = some a → h[n]? = some o → ∃ u, H a = some u ∧ OR C ρ H o u
  hid : ∀ a, ρ.hid a → H a ≠ none
  dis : ∀ n a, ρ n = some a → ¬ ρ.hid a
theorem HR.at_ {h : MH} (hr : HR C ρ H h) {n : Nat} {o : MO} (e : h[n]? = some o) : ∃ a u, ρ n = some a ∧ H a = some u ∧ OR C ρ H o u := by
  obtain ⟨a, ha⟩ := hr.dom n (List.getElem?_eq_some_iff.mp e).1
  obtain ⟨u, h1, h2⟩ := hr.obj n a o ha e
  exact ⟨a, u, ha, h1, h2⟩
theorem HR.hit {h : MH} (hr : HR C ρ H h) {n : Nat} {a : Addr} (e : ρ n = some a) : ∃ o u, h[n]? = some o ∧ H a = some u ∧ OR C ρ H o u := by
  have hn := hr.rng n a e
  obtain ⟨u, h1, h2⟩ := hr.obj n a h[n] e (by simp [hn])
  exact ⟨h[n], u, by simp [hn], h1, h2⟩
theorem HR.fresh {h : MH} (hr : HR C ρ H h) {p : Addr} (hp : H p = none) : Off ρ p := by
  refine ⟨fun n e => ?_, fun z => hr.hid p z hp⟩
  obtain ⟨o, u, _, h2, _⟩ := hr.hit e
  rw [hp] at h2
  cases h2

/-- an object is laid, and changes no more -/
theorem Ext.laid {h : MH} (hr : HR C ρ H h) {p : Addr} {o : HO} (hp : H p = none) : Ext ρ H ρ (upd H p o) where
  sub := fun _ _ h => h
  new := fun n a h h' => by rw [h] at h'; cases h'
  keep := fun a u h _ _ => by rw [upd_ne (ne_of_none h hp)]; exact h
  live := fun a h => by
    by_cases e : a = p
    · subst e; exact hp
    · rw [upd_ne e] at h; exact h
  hid := rfl
theorem HR.laid {h : MH} (hr : HR C ρ H h) {p : Addr} {o : HO} (hp : H p = none) : HR C ρ (upd H p o) h where
  dom := hr.dom
  rng := hr.rng
  inj := hr.inj
  obj := fun n a u e1 e2 => by
    obtain ⟨v, h1, h2⟩ := hr.obj n a u e1 e2
    refine ⟨v, ?_, h2.mono (Ext.laid hr hp)⟩
    rw [upd_ne (ne_of_none h1 hp)]
    exact h1
  hid := fun a z => by
    by_cases e : a = p
    · subst e; exact absurd hp (hr.hid _ z)
    · rw [upd_ne e]; exact hr.hid a z
  dis := hr.dis
/-- an object is laid on the small heap -/
def push (ρ : Rho) (n : Nat) (p : Addr) : Rho := ⟨fun m => if m = n then some p else ρ m, ρ.hid⟩
theorem Ext.pushed {h : MH} (hr : HR C ρ H h) {p : Addr} {o : HO} (hp : H p = none) : Ext ρ H (push ρ h.length p) (upd H p o) where
  sub := fun n a e => by
    have := hr.rng n a e
    show (if n = h.length then some p else ρ n) = some a
    rw [if_neg (by omega)]
    exact e
  new := fun n a e e' => by
    have e' : (if n = h.length then some p else ρ n) = some a := e'
    split at e'
    · cases e'; exact hp
    · rw [e] at e'; cases e'
  keep := fun a u h _ _ => by rw [upd_ne (ne_of_none h hp)]; exact h
  live := fun a h => by
    by_cases e : a = p
    · subst e; exact hp
    · rw [upd_ne e] at h; exact h
  hid := rfl
theorem HR.pushed {h : MH} (hr : HR C ρ H h) {p : Addr} {o : HO} {u : MO} (hp : H p = none) (ho : OR C ρ H u o) : HR C (push ρ h.length p) (upd H p o) (h ++ [u]) where
  dom := fun n hn => by
    show ∃ a, (if n = h.length then some p else ρ n) = some a
    by_cases e : n = h.length
    · exact ⟨p, by rw [if_pos e]⟩
    · obtain ⟨a, ha⟩ := hr.dom n (by simp at hn; omega)
      exact ⟨a, by rw [if_neg e]; exact ha⟩
  rng := fun n a e => by
    have e : (if n = h.length then some p else ρ n) = some a := e
    simp only [List.length_append, List.length_singleton]
    split at e
    · omega
    · have := hr.rng n a e; omega
  inj := fun n m a e1 e2 => by
    have e1 : (if n = h.length then some p else ρ n) = some a := e1
    have e2 : (if m = h.length then some p else ρ m) = some a := e2
    split at e1 <;> split at e2
    · omega
    · cases e1; exact absurd e2 ((hr.fresh hp).1 m)
    · cases e2; exact absurd e1 ((hr.fresh hp).1 n)
    · exact hr.inj n m a e1 e2
  obj := fun n a v e1 e2 => by
    have x := Ext.pushed (o := o) hr hp
    have e1 : (if n = h.length then some p else ρ n) = some a := e1
    split at e1
    · rename_i hn
      cases e1
      subst hn
      rw [List.getElem?_append_right (Nat.le_refl _), Nat.sub_self] at e2
      cases e2
      exact ⟨o, upd_same, ho.mono x⟩
    · have hn := hr.rng n a e1
      rw [List.getElem?_append_left hn] at e2
      obtain ⟨w, h1, h2⟩ := hr.obj n a v e1 e2
      refine ⟨w, ?_, h2.mono x⟩
      rw [upd_ne (ne_of_none h1 hp)]
      exact h1
  hid := fun a z => by
    by_cases e : a = p
    · subst e; exact absurd hp (hr.hid _ z)
    · rw [upd_ne e]; exact hr.hid a z
  dis := fun n a e z => by
    have e : (if n = h.length then some p else ρ n) = some a := e
    split at e
    · cases e; exact hr.hid _ z hp
    · exact hr.dis n a e z
/-- an object of the small heap changes -/
theorem Ext.put {h : MH} (hr : HR C ρ H h) {n : Nat} {a : Addr} {o : HO} (hn : ρ n = some a) : Ext ρ H ρ (upd H a o) where
  sub := fun _ _ h => h
  new := fun n a h h' => by rw [h] at h'; cases h'
  keep := fun b u h hb _ => by
    rw [upd_ne]
    · exact h
    · intro e; subst e; exact hb n hn
  live := fun b h => by
    by_cases e : b = a
    · subst e; rw [upd_same] at h; cases h
    · rw [upd_ne e] at h; exact h
  hid := rfl
theorem HR.put {h : MH} (hr : HR C ρ H h) {n : Nat} {a : Addr} {o : HO} {u : MO} (hn : ρ n = some a) (ho : OR C ρ H u o) : HR C ρ (upd H a o) (h.set n u) where
  dom := fun m hm => hr.dom m (by simpa using hm)
  rng := fun m b e => by simpa using hr.rng m b e
  inj := hr.inj
  obj := fun m b v e1 e2 => by
    have x := Ext.put (o := o) hr hn
    by_cases e : m = n
    · subst e
      rw [hn] at e1
      cases e1
      rw [List.getElem?_set_self (hr.rng m _ hn)] at e2
      cases e2
      exact ⟨o, upd_same, ho.mono x⟩
    · rw [List.getElem?_set_ne (Ne.symm e)] at e2
      obtain ⟨w, h1, h2⟩ := hr.obj m b v e1 e2
      refine ⟨w, ?_, h2.mono x⟩
      rw [upd_ne]
      · exact h1
      · intro q; subst q; exact e (hr.inj m n _ e1 hn)
  hid := fun b z => by
    by_cases e : b = a
    · subst e; rw [upd_same]; intro q; cases q
    · rw [upd_ne e]; exact hr.hid b z
  dis := hr.dis
/-- an object that is made step by step: out of sight until it is done -/
def hide (ρ : Rho) (p : Addr) : Rho := ⟨ρ.to, fun a => a = p ∨ ρ.hid a⟩
theorem Tr.hide {p : Addr} {o : HO} (hp : H p = none) : Tr ρ H (hide ρ p) (upd H p o) where
  sub := fun _ _ h => h
  keep := fun a u h _ => by rw [upd_ne (ne_of_none h hp)]; exact h
  off := fun {a u} h n => ⟨n.1, fun z => z.elim (fun e => by subst e; rw [hp] at h; cases h) n.2⟩
theorem HR.hide {h : MH} (hr : HR C ρ H h) {p : Addr} {o : HO} (hp : H p = none) : HR C (hide ρ p) (upd H p o) h where
  dom := hr.dom
  rng := hr.rng
  inj := hr.inj
  obj := fun n a u e1 e2 => by
    obtain ⟨v, h1, h2⟩ := hr.obj n a u e1 e2
    refine ⟨v, ?_, h2.tr (Tr.hide hp)⟩
    rw [upd_ne (ne_of_none h1 hp)]
    exact h1
  hid := fun a z => by
    by_cases e : a = p
    · subst e; rw [upd_same]; intro q; cases q
    · rw [upd_ne e]; exact hr.hid a (z.resolve_left e)
  dis := fun n a e z => z.elim (fun q => by subst q; exact (hr.fresh hp).1 n e) (hr.dis n a e)
/-- it grows -/
theorem Exw.grow {p : Addr} {o : HO} : Exw (fun a => a = p) ρ H ρ (upd H p o) where
  sub := fun _ _ h => h
  new := fun n a h h' => by rw [h] at h'; cases h'
  keep := fun a u h n q => by rw [upd_ne q]; exact h
  live := fun a h => by
    by_cases e : a = p
    · subst e; rw [upd_same] at h; cases h
    · rw [upd_ne e] at h; exact h
  hid := rfl
theorem Tr.grow {p : Addr} {o : HO} (hp : ρ.hid p) : Tr ρ H ρ (upd H p o) := Exw.tr Exw.grow fun a z => by subst z; exact hp
theorem HR.grow {h : MH} (hr : HR C ρ H h) {p : Addr} {o : HO} (hp : ρ.hid p) : HR C ρ (upd H p o) h where
  dom := hr.dom
  rng := hr.rng
  inj := hr.inj
  obj := fun n a u e1 e2 => by
    obtain ⟨v, h1, h2⟩ := hr.obj n a u e1 e2
    refine ⟨v, ?_, h2.tr (Tr.grow hp)⟩
    rw [upd_ne]
    · exact h1
    · intro q; subst q; exact hr.dis n _ e1 hp
  hid := fun a z => by
    by_cases e : a = p
    · subst e; rw [upd_same]; intro q; cases q
    · rw [upd_ne e]; exact hr.hid a z
  dis := hr.dis
/-- it is done: seen from the state ahead of it -/
def show_ (ρ ρ' : Rho) : Rho := ⟨ρ'.to, ρ.hid⟩
theorem Tr.show_ {p : Addr} (hn : ∀ a, ρ'.hid a ↔ a = p ∨ ρ.hid a) : Tr ρ' H' (show_ ρ ρ') H' := ⟨fun _ _ h => h, fun _ _ h _ => h, fun {a o} h n => ⟨n.1, fun z => n.2 ((hn a).mpr (.inr z))⟩⟩
theorem Exw.show_ {p : Addr} {o : HO} (hp : H p = none) (x : Exw (fun a => a = p) (hide ρ p) (upd H p o) ρ' H') : Ext ρ H (show_ ρ ρ') H' where
  sub := x.sub
  new := fun n a h h' => by
    have := x.new n a h h'
    by_cases e : a = p
    · subst e; exact hp
    · rw [upd_ne e] at this; exact this
  keep := fun a u h n _ => by
    have ne := ne_of_none h hp
    refine x.keep a u ?_ n ne
    rw [upd_ne ne]
    exact h
  live := fun a h => by
    have := x.live a h
    by_cases e : a = p
    · subst e; exact hp
    · rw [upd_ne e] at this; exact this
  hid := rfl
theorem HR.show_ {h' : MH} {p : Addr} {o : HO} (hp : H p = none) (x : Exw (fun a => a = p) (EV.hide ρ p) (upd H p o) ρ' H') (hr' : HR C ρ' H' h') : HR C (EV.show_ ρ ρ') H' h' where
  dom := hr'.dom
  rng := hr'.rng
  inj := hr'.inj
  obj := fun n a u e1 e2 => by
    obtain ⟨v, h1, h2⟩ := hr'.obj n a u e1 e2
    exact ⟨v, h1, h2.tr (Tr.show_ (p := p) fun a => by rw [x.hid]; exact Iff.rfl)⟩
  hid := fun a z => hr'.hid a (by rw [x.hid]; exact .inr z)
  dis := fun n a e z => hr'.dis n a e (by rw [x.hid]; exact .inr z)
theorem off_show {p : Addr} {o : HO} (hp : H p = none) {h : MH} (hr : HR C ρ H h) (x : Exw (fun a => a = p) (hide ρ p) (upd H p o) ρ' H') : Off (EV.show_ ρ ρ') p := ⟨fun n e => by
  cases q : (hide ρ p) n with
  | none =>
    have := x.new n p q e
    rw [upd_same] at this
    cases this
  | some c =>
    have t := x.sub n c q
    have e : ρ'.to n = some p := e
    have t : ρ'.to n = some c := t
    rw [e] at t
    cases t
    exact (hr.fresh hp).1 n q, fun z => hr.hid p z hp⟩
/-- it is done, and goes on the small heap -/
theorem off_hid {h' : MH} (hr' : HR C ρ' H' h') {p : Addr} (hp : ρ'.hid p) : ∀ n, ρ' n ≠ some p := fun n e => hr'.dis n p e hp
theorem Tr.out {n : Nat} {p : Addr} {h' : MH} (hr' : HR C ρ' H' h') (hn : ∀ a, ρ'.hid a ↔ a = p ∨ ρ.hid a) (hl : h'.length ≤ n) : Tr ρ' H' (push (EV.show_ ρ ρ') n p) H' where
  sub := fun m a e => by
    have := hr'.rng m a e
    show (if m = n then some p else ρ' m) = some a
    rw [if_neg (by omega)]
    exact e
  keep := fun _ _ h _ => h
  off := fun {a o} _ z => ⟨fun m e => by
    have e : (if m = n then some p else ρ' m) = some a := e
    split at e
    · cases e
      exact z.2 ((hn _).mpr (.inl rfl))
    · exact z.1 m e, fun q => z.2 ((hn a).mpr (.inr q))⟩
theorem Exw.out {p : Addr} {o : HO} {h h' : MH} (hr : HR C ρ H h) (hp : H p = none) (x : Exw (fun a => a = p) (EV.hide ρ p) (upd H p o) ρ' H') (hr' : HR C ρ' H' h') : Ext ρ H (push (EV.show_ ρ ρ') h'.length p) H' := by
  have xs := Exw.show_ hp x
  have hs := HR.show_ hp x hr'
  refine ⟨fun n a e => ?_, fun n a e e' => ?_, fun a u e n z => xs.keep a u e n z, fun a e => xs.live a e, rfl⟩
  · have := xs.sub n a e
    have hn := hs.rng n a this
    show (if n = h'.length then some p else (EV.show_ ρ ρ') n) = some a
    rw [if_neg (by omega)]
    exact this
  · have e' : (if n = h'.length then some p else (EV.show_ ρ ρ') n) = some a := e'
    split at e'
    · cases e'; exact hp
    · exact xs.new n a e e'
theorem HR.out {p : Addr} {o u : HO} {m : MO} {h h' : MH} (hr : HR C ρ H h) (hp : H p = none) (x : Exw (fun a => a = p) (EV.hide ρ p) (upd H p o) ρ' H') (hr' : HR C ρ' H' h') (hu : H' p = some u) (ho : OR C ρ' H' m u) : HR C (push (EV.show_ ρ ρ') h'.length p) H' (h' ++ [m]) := by
  have hn : ∀ a, ρ'.hid a ↔ a = p ∨ ρ.hid a := fun a => by rw [x.hid]; exact Iff.rfl
  have tr := Tr.out (ρ := ρ) (p := p) hr' hn (Nat.le_refl _)
  have hid : ρ'.hid p := (hn p).mpr (.inl rfl)
  refine ⟨fun n hn => ?_, fun n a e => ?_, fun n m a e1 e2 => ?_, fun n a v e1 e2 => ?_, fun a z => hr'.hid a ((hn a).mpr (.inr z)), fun n a e z => ?_⟩
  · show ∃ a, (if n = h'.length then some p else ρ' n) = some a
    by_cases e : n = h'.length
    · exact ⟨p, by rw [if_pos e]⟩
    · obtain ⟨a, ha⟩ := hr'.dom n (by simp at hn; omega)
      exact ⟨a, by rw [if_neg e]; exact ha⟩
  · have e : (if n = h'.length then some p else ρ' n) = some a := e
    simp only [List.length_append, List.length_singleton]
    split at e
    · omega
    · have := hr'.rng n a e; omega
  · have e1 : (if n = h'.length then some p else ρ' n) = some a := e1
    have e2 : (if m = h'.length then some p else ρ' m) = some a := e2
    split at e1 <;> split at e2
    · omega
    · cases e1; exact absurd e2 (off_hid hr' hid m)
    · cases e2; exact absurd e1 (off_hid hr' hid n)
    · exact hr'.inj n m a e1 e2
  · have e1 : (if n = h'.length then some p else ρ' n) = some a := e1
    split at e1
    · rename_i hn
      cases e1
      subst hn
      rw [List.getElem?_append_right (Nat.le_refl _), Nat.sub_self] at e2
      cases e2
      exact ⟨u, hu, ho.tr tr⟩
    · have hn := hr'.rng n a e1
      rw [List.getElem?_append_left hn] at e2
      obtain ⟨w, h1, h2⟩ := hr'.obj n a v e1 e2
      exact ⟨w, h1, h2.tr tr⟩
  · have e : (if n = h'.length then some p else ρ' n) = some a := e
    have z : ρ.hid a := z
    split at e
    · cases e; exact hr.hid _ z hp
    · exact hr'.dis n a e ((hn a).mpr (.inr z))
/-- the frame's values -/
structure SR (C : Cn) (ρ : Rho) (H : Hp) (σ : L2.St) (en : En) : Prop where
  len : σ.length = en.length
  get : ∀ (i : Nat) (d : D), en[i]? = some (some d) → ∃ v, σ[i]? = some (some v) ∧ RD C ρ H d v
theorem SR.tr (x : Tr ρ H ρ' H') {σ : L2.St} {en : En} (h : SR C ρ H σ en) : SR C ρ' H' σ en := ⟨h.len, fun i d e => let ⟨v, a, b⟩ := h.get i d e; ⟨v, a, b.tr x⟩⟩
theorem SR.mono (x : Ext ρ H ρ' H') {σ : L2.St} {en : En} (h : SR C ρ H σ en) : SR C ρ' H' σ en := h.tr (Ext.tr x)
theorem SR.put {σ : L2.St} {en : En} (h : SR C ρ H σ en) {i : Nat} {d : D} {v : V} (r : RD C ρ H d v) : SR C ρ H (σ.set i (some v)) (en.set i (some d)) where
  len := by simpa using h.len
  get := fun j e q => by
    by_cases hj : j = i
    · subst hj
      have hl : j < en.length := by
        have := (List.getElem?_eq_some_iff.mp q).1
        simpa using this
      rw [List.getElem?_set_self hl] at q
      cases q
      exact ⟨v, by rw [List.getElem?_set_self (by rw [h.len]; exact hl)], r⟩
    · rw [List.getElem?_set_ne (Ne.symm hj)] at q
      obtain ⟨w, h1, h2⟩ := h.get j e q
      exact ⟨w, by rw [List.getElem?_set_ne (Ne.symm hj)]; exact h1, h2⟩
end
end EV

set_option Elab.async false
set_option linter.all false
set_option maxRecDepth 100000
set_option maxHeartbeats 4000000
namespace EV
open PySem PySem.Spec PyProof.Rows L2

/-- what a value of the evaluator asks of what follows -/
def Ans (C : Cn) (ρ : Rho) (H : Hp) (h' : MH) (d : D) (Q : VK) : Prop := ∀ ρ' H' v, Ext ρ H ρ' H' → HR C ρ' H' h' → RD C ρ' H' d v → Q v H'
section
variable {C : Cn} {ρ : Rho} {H : Hp} {h : MH} {Q : VK} {d : D} {v : V}
theorem Ans.here (q : Ans C ρ H h d Q) (hr : HR C ρ H h) (r : RD C ρ H d v) : Q v H := q ρ H v (Ext.refl ρ H) hr r
/-- a new list | tuple that changes no more -/
theorem Ans.newL {xs : List D} {vs : List V} (q : Ans C ρ H h (.lst xs) Q) (hr : HR C ρ H h) (r : RDs C ρ H xs vs) {p : Addr} (hp : H p = none) : Q (.ref p) (upd H p (.lst vs)) :=
  q ρ _ _ (Ext.laid hr hp) (hr.laid hp) (.lst upd_same (hr.fresh hp) (r.mono (Ext.laid hr hp)))
theorem Ans.newT {xs : List D} {vs : List V} (q : Ans C ρ H h (.tup xs) Q) (hr : HR C ρ H h) (r : RDs C ρ H xs vs) {p : Addr} (hp : H p = none) : Q (.ref p) (upd H p (.tup vs)) :=
  q ρ _ _ (Ext.laid hr hp) (hr.laid hp) (.tup (.inl upd_same) (hr.fresh hp) (r.mono (Ext.laid hr hp)))
/-- a new list on the small heap -/
theorem Ans.newA {xs : List D} {vs : List V} (q : Ans C ρ H (h ++ [.lst xs]) (.adr h.length) Q) (hr : HR C ρ H h) (r : RDs C ρ H xs vs) {p : Addr} (hp : H p = none) : Q (.ref p) (upd H p (.lst vs)) :=
  q _ _ _ (Ext.pushed hr hp) (hr.pushed hp ⟨vs, rfl, r⟩) (.adr (show (if h.length = h.length then some p else ρ h.length) = some p from if_pos rfl))
theorem Ans.newLA {xs : List D} {vs : List V} {fz : Bool} (q : Ans C ρ H (EV.newL fz xs h).2 (EV.newL fz xs h).1 Q) (hr : HR C ρ H h) (r : RDs C ρ H xs vs) {p : Addr} (hp : H p = none) : Q (.ref p) (upd H p (.lst vs)) := by
  cases fz with
  | true => exact Ans.newL (xs := xs) q hr r hp
  | false => exact Ans.newA (xs := xs) q hr r hp

theorem RD.okS_ {s : S} (r : RD C ρ H (.str s) v) : okS s = true ∧ v = .str (mk s) := by
  cases r with | str s h => exact ⟨h, rfl⟩
theorem okS_len {s : S} (h : okS s = true) : s.length ≤ 100000 := by
  unfold okS at h
  rw [Bool.and_eq_true] at h
  exact of_decide_eq_true h.1
theorem okS_lt {s : S} (h : okS s = true) : ∀ c ∈ s, c < 128 := fun c hc => by
  unfold okS at h
  rw [Bool.and_eq_true] at h
  exact of_decide_eq_true (List.all_eq_true.mp h.2 c hc)
theorem okS_of {s : S} (h1 : s.length ≤ 100000) (h2 : ∀ c ∈ s, c < 128) : okS s = true := by
  unfold okS
  rw [Bool.and_eq_true]
  exact ⟨decide_eq_true h1, List.all_eq_true.mpr fun c hc => decide_eq_true (h2 c hc)⟩
theorem sl1 {n : Nat} (h : n ≤ 1000000) : n ≤ sizeLine := Nat.le_trans h (by decide)
theorem sl0 {n : Nat} (h : n ≤ 100000) : n ≤ sizeLine := Nat.le_trans h (by decide)
theorem okL_ {n : Nat} (h : okL n = true) : n ≤ sizeLine := sl1 (of_decide_eq_true h)
theorem okL_lt {n : Nat} (h : okL (n + 1) = true) : n < sizeLine := okL_ h
theorem mk_small {s : S} (h : okS s = true) : (mk s).length ≤ sizeLine := by
  rw [mk_len]
  exact sl0 (okS_len h)

/-- lists and tuples, wherever they stand -/
theorem lst_at {xs : List D} (hr : HR C ρ H h) (e : lstD h d = some xs) (r : RD C ρ H d v) : ∃ a vs, v = .ref a ∧ H a = some (.lst vs) ∧ RDs C ρ H xs vs := by
  cases r with
  | lst a b c => cases e; exact ⟨_, _, rfl, a, c⟩
  | @adr n a q =>
    have e' : (match h[n]? with | some (.lst xs) => some xs | _ => none) = some xs := e
    split at e'
    · rename_i ys hy
      cases e'
      obtain ⟨u, h1, vs, rfl, h3⟩ := hr.obj _ _ _ q hy
      exact ⟨a, vs, rfl, h1, h3⟩
    · cases e'
  | _ => cases e
theorem seq_at {xs : List D} (hr : HR C ρ H h) (e : seqD h d = some xs) (r : RD C ρ H d v) : ∃ a vs, v = .ref a ∧ (SqL C.K H a vs ∨ SqT C.K H a vs) ∧ RDs C ρ H xs vs := by
  cases r with
  | tup a b c => cases e; exact ⟨_, _, rfl, .inr (.inl a), c⟩
  | tupK a b c d e' f => cases e; exact ⟨_, _, rfl, .inr (.inr ⟨_, _, _, a, b, c, d, e'⟩), f⟩
  | lst a b c => cases e; exact ⟨_, _, rfl, .inl (.inl (.inl a)), c⟩
  | @scr a o ns b c =>
    cases e
    refine ⟨_, _, rfl, .inl (.inl (.inr ⟨o, b⟩)), ?_⟩
    clear b
    induction ns with
    | nil => exact .nil
    | cons n ns ih => exact .cons (.int n) ih
  | @scrK a ns o its n p1 p2 p3 p4 p5 p6 =>
    cases e
    refine ⟨_, _, rfl, .inl (.inr ⟨o, its, n, p1, p2, p3, p4, p5, p6⟩), ?_⟩
    clear p6
    induction ns with
    | nil => exact .nil
    | cons n ns ih => exact .cons (.int n) ih
  | @adr n a q =>
    have e' : (match h[n]? with | some (.lst xs) => some xs | _ => none) = some xs := e
    split at e'
    · rename_i ys hy
      cases e'
      obtain ⟨u, h1, vs, rfl, h3⟩ := hr.obj _ _ _ q hy
      exact ⟨a, vs, rfl, .inl (.inl (.inl h1)), h3⟩
    · cases e'
  | _ => cases e
theorem tup_at {ds : List D} (r : RD C ρ H (.tup ds) v) : ∃ a vs, v = .ref a ∧ SqT C.K H a vs ∧ RDs C ρ H ds vs := by
  cases r with
  | tup a b c => exact ⟨_, _, rfl, .inl a, c⟩
  | tupK a b c d e' f => exact ⟨_, _, rfl, .inr ⟨_, _, _, a, b, c, d, e'⟩, f⟩
theorem RDs.nil_of {xs : List D} {vs : List V} (r : RDs C ρ H xs vs) : (xs = [] ↔ vs = []) := by
  cases r <;> simp
end
section
variable {X : Cx} {C : Cn}
def rBin (C : Cn) (op : Operator) : R2 := fun x y H Q => ∃ ρ h dx dy z, HR C ρ H h ∧ RD C ρ H dx x ∧ RD C ρ H dy y ∧ binD op dx dy h = some z ∧ Ans C ρ H h z Q
theorem op_lists (hK : X.K = C.K) {pins : List (Addr × Obj)} {s : Shared} {σ : L2.St} {H : Hp} {x y : V} {v u : Value} {Q : VK} {ρ : Rho} {h : MH} {dx dy z : D} (I : Inv X pins σ H s) (rx : RelV x v) (ry : RelV y u) (hr : HR C ρ H h) (r1 : RD C ρ H dx x) (r2 : RD C ρ H dy y)
    (e : (match lstD h dx, lstD h dy with
    | some xs, some ys => if okL (xs.length + ys.length) then some (D.lst (xs ++ ys)) else none
    | _, _ => none) = some z) (q : Ans C ρ H h z Q) : wpAny (model X.prog X.w) X.A (binaryOp .Add v u) (EP X pins σ Q) X.xe s := by
  cases e1 : lstD h dx with
  | none => rw [e1] at e; cases e
  | some xs =>
    cases e2 : lstD h dy with
    | none => rw [e1, e2] at e; cases e
    | some ys =>
      rw [e1, e2] at e
      dsimp only at e
      split at e
      · rename_i hl
        cases e
        obtain ⟨a, vs, rfl, ha, ra⟩ := lst_at hr e1 r1
        obtain ⟨b, ws, rfl, hb, rb⟩ := lst_at hr e2 r2
        refine op_cat pins s σ H _ _ v u Q I rx ry ⟨a, b, vs, ws, rfl, rfl, ha, hb, ?_, fun p hp => q.newL hr (ra.app rb) hp⟩
        rw [← ra.len, ← rb.len]
        exact okL_ hl
      · cases e
theorem op_bin (hK : X.K = C.K) {op : Operator} : OpR X (binaryOp op) (rBin C op) := by
  intro pins s σ H x y v u Q I rx ry hq
  obtain ⟨ρ, h, dx, dy, z, hr, r1, r2, e, q⟩ := hq
  unfold binD at e
  split at e
  · cases e; cases r1; cases r2
    exact op_add pins s σ H _ _ v u Q I rx ry ⟨_, _, rfl, rfl, q.here hr (.int _)⟩
  · cases e; cases r1; cases r2
    exact op_sub pins s σ H _ _ v u Q I rx ry ⟨_, _, rfl, rfl, q.here hr (.int _)⟩
  · split at e
    · rename_i hc
      cases e; cases r1; cases r2
      refine op_mul pins s σ H _ _ v u Q I rx ry ⟨_, _, rfl, rfl, ?_, q.here hr (.int _)⟩
      rw [Bool.or_eq_true] at hc
      rcases hc with hc | hc
      · exact .inl (by simpa using hc)
      · exact .inr (by simpa using hc)
    · cases e
  · split at e
    · rename_i hc
      cases e; cases r1; cases r2
      exact op_fdiv pins s σ H _ _ v u Q I rx ry ⟨_, _, rfl, rfl, by simpa [CDiv, CPow] using hc, q.here hr (.int _)⟩
    · cases e
  · split at e
    · rename_i hc
      cases e; cases r1; cases r2
      exact op_mod pins s σ H _ _ v u Q I rx ry ⟨_, _, rfl, rfl, by simpa [CDiv, CPow] using hc, q.here hr (.int _)⟩
    · cases e
  · split at e
    · rename_i hc
      cases e; cases r1; cases r2
      exact op_pow pins s σ H _ _ v u Q I rx ry ⟨_, _, rfl, rfl, by simpa [CDiv, CPow] using hc, q.here hr (.int _)⟩
    · cases e
  · split at e
    · rename_i hc
      cases e
      obtain ⟨o1, rfl⟩ := r1.okS_
      obtain ⟨o2, rfl⟩ := r2.okS_
      refine op_add_str pins s σ H _ _ v u Q I rx ry ⟨_, _, rfl, rfl, ?_, ?_⟩
      · rw [mk_len, mk_len]
        have := okS_len hc
        rw [List.length_append] at this
        exact sl0 this
      · rw [mk_app]
        exact q.here hr (.str _ hc)
    · cases e
  · rename_i a b
    split at e
    · rename_i hc
      cases e
      simp only [Bool.and_eq_true] at hc
      obtain ⟨⟨hl, h1⟩, h2⟩ := hc
      obtain ⟨p, vs, rfl, hp, ra⟩ := tup_at r1
      obtain ⟨p', ws, rfl, hp', rb⟩ := tup_at r2
      rw [← hK] at hp hp'
      have n1 : vs ≠ [] := fun z => by
        rw [ra.nil_of.mpr z] at h1
        cases h1
      have n2 : ws ≠ [] := fun z => by
        rw [rb.nil_of.mpr z] at h2
        cases h2
      refine op_catT pins s σ H _ _ v u Q I rx ry ⟨p, p', vs, ws, rfl, rfl, hp, hp', n1, ?_, ?_⟩
      · rw [← ra.len, ← rb.len]
        exact okL_ hl
      · exact ⟨fun z => absurd z n2, fun _ p hp => q.newT hr (ra.app rb) hp⟩
    · cases e
  · exact op_lists hK I rx ry hr r1 r2 e q
  · split at e
    · rename_i hc
      cases e
      simp only [Bool.and_eq_true, decide_eq_true_eq] at hc
      obtain ⟨⟨k0, k1⟩, hl⟩ := hc
      obtain ⟨p, vs, rfl, hp, ra⟩ := lst_at hr rfl r1
      cases r2
      exact op_rep pins s σ H _ _ v u Q I rx ry ⟨p, _, vs, rfl, rfl, hp, k0, k1, by rw [← ra.len]; exact okL_ hl, fun p hp => q.newL hr (ra.rep _) hp⟩
    · cases e
  · cases e
end
end EV

set_option Elab.async false
set_option linter.all false
set_option maxRecDepth 100000
set_option maxHeartbeats 4000000
namespace EV
open PySem PySem.Spec PyProof.Rows L2
/-! ### what is left behind, and changes no more -/
def cutR (ρ : Rho) (N : Nat) : Rho := ⟨fun n => if n < N then ρ n else none, ρ.hid⟩
section
variable {C : Cn} {ρ : Rho} {H : Hp} {h : MH} {N : Nat}
theorem off_cut {a : Addr} (o : Off ρ a) : Off (cutR ρ N) a := by
  refine ⟨fun n e => ?_, o.2⟩
  have e : (if n < N then ρ n else none) = some a := e
  split at e
  · exact o.1 n e
  · cases e
theorem off_new (hr : HR C ρ H h) {m : Nat} {a : Addr} (hm : ρ m = some a) (hN : ¬ m < N) : Off (cutR ρ N) a := by
  refine ⟨fun n e => ?_, hr.dis m a hm⟩
  have e : (if n < N then ρ n else none) = some a := e
  split at e
  · have := hr.inj n m a e hm
    omega
  · cases e
theorem zip_fst {α β γ : Type} {fs : List (α × β)} {vs : List γ} (hl : fs.length = vs.length) : ((fs.map (·.1)).zip vs).map (·.1) = fs.map (·.1) := List.map_fst_zip (by simp; omega)
theorem zip_snd {α β γ : Type} {fs : List (α × β)} {vs : List γ} (hl : fs.length = vs.length) : ((fs.map (·.1)).zip vs).map (·.2) = vs := List.map_snd_zip (by simp; omega)
theorem eachM_len {f : D → Option D} : ∀ {xs ys : List D}, eachM f xs = some ys → xs.length = ys.length
  | [], _, e => by cases e; rfl
  | x :: xs, ys, e => by
    unfold eachM at e
    split at e
    · rename_i h1 h2
      cases e
      simp [eachM_len h2]
    · cases e
theorem obj_cut {c : Nat} {a dx : Addr} {fvs : List (Str × V)} {fs : List (Nat × D)} {vs : List D} (e : fs.map (fun q => C.fN q.1) = fvs.map (·.1)) (hl : (fs.map (·.2)).length = vs.length) : ((fs.map (·.1)).zip vs).map (fun q => C.fN q.1) = fvs.map (·.1) := by
  have hl2 : fs.length = vs.length := by simpa using hl
  have e1 : ((fs.map (·.1)).zip vs).map (fun q => C.fN q.1) = (((fs.map (·.1)).zip vs).map (·.1)).map C.fN := by rw [List.map_map]; rfl
  rw [e1, zip_fst hl2, ← e, List.map_map]
  rfl
theorem fz_ok (hr : HR C ρ H h) : ∀ (n : Nat) {d d2 : D} {v : V}, RD C ρ H d v → fz N h n d = some d2 → RD C (cutR ρ N) H d2 v := by
  intro n
  induction n with
  | zero => intro d d2 v r e; cases e
  | succ n ih =>
    have each : ∀ {xs ys : List D} {vs : List V}, RDs C ρ H xs vs → eachM (fz N h n) xs = some ys → RDs C (cutR ρ N) H ys vs := by
      intro xs
      induction xs with
      | nil => intro ys vs r e; cases e; cases r; exact .nil
      | cons x xs ih2 =>
        intro ys vs r e
        unfold eachM at e
        split at e
        · rename_i y ys2 h1 h2
          cases e
          cases r with
          | cons r rs => exact .cons (ih r h1) (ih2 rs h2)
        · cases e
    intro d d2 v r e
    cases r with
    | non => cases e; exact .non
    | bl b => cases e; exact .bl b
    | int i => cases e; exact .int i
    | str s q => cases e; exact .str s q
    | rep q => cases e; exact .rep q
    | cls c => cases e; exact .cls c
    | scr a b => cases e; exact .scr a (off_cut b)
    | scrK a b c d e' f => cases e; exact .scrK a b c d e' f
    | tup a b c =>
      obtain ⟨ys, e1, rfl⟩ := Option.map_eq_some_iff.mp e
      exact .tup a (off_cut b) (each c e1)
    | tupK a b c d e' f =>
      obtain ⟨ys, e1, rfl⟩ := Option.map_eq_some_iff.mp e
      exact .tupK a b c d e' (each f e1)
    | lst a b c =>
      obtain ⟨ys, e1, rfl⟩ := Option.map_eq_some_iff.mp e
      exact .lst a (off_cut b) (each c e1)
    | dct a b c d =>
      obtain ⟨ys, e1, rfl⟩ := Option.map_eq_some_iff.mp e
      exact .dct a (off_cut b) c (each d e1)
    | dctK a b c =>
      obtain ⟨ys, e1, rfl⟩ := Option.map_eq_some_iff.mp e
      exact .dctK a b (each c e1)
    | @obj c a dx fvs fs p1 p2 p3 p4 =>
      obtain ⟨ys, e1, rfl⟩ := Option.map_eq_some_iff.mp e
      have hl := eachM_len e1
      refine .obj p1 (off_cut p2) (obj_cut (c := c) (a := a) (dx := dx) p3 hl) ?_
      rw [zip_snd (by simpa using hl)]
      exact each p4 e1
    | @adr m a q =>
      have e : (if m < N then some (D.adr m) else match h[m]? with
        | some (.lst xs) => (eachM (fz N h n) xs).map .lst
        | some (.dct ks vs) => (eachM (fz N h n) vs).map (.dct ks)
        | some (.ins c fs) => (eachM (fz N h n) (fs.map (·.2))).map fun vs => .obj c ((fs.map (·.1)).zip vs)
        | none => none) = some d2 := e
      split at e
      · rename_i hm
        cases e
        exact .adr (show (if m < N then ρ m else none) = some a by rw [if_pos hm]; exact q)
      · rename_i hm
        split at e
        · rename_i xs hx
          obtain ⟨ys, e1, rfl⟩ := Option.map_eq_some_iff.mp e
          obtain ⟨u, h1, vs, rfl, h3⟩ := hr.obj _ _ _ q hx
          exact .lst h1 (off_new hr q hm) (each h3 e1)
        · rename_i ks xs hx
          obtain ⟨ys, e1, rfl⟩ := Option.map_eq_some_iff.mp e
          obtain ⟨u, h1, kvs, rfl, h3, h4⟩ := hr.obj _ _ _ q hx
          exact .dct h1 (off_new hr q hm) h3 (each h4 e1)
        · rename_i c fs hx
          obtain ⟨ys, e1, rfl⟩ := Option.map_eq_some_iff.mp e
          obtain ⟨u, h1, dx, fvs, rfl, h3, h4⟩ := hr.obj _ _ _ q hx
          have hl := eachM_len e1
          refine .obj h1 (off_new hr q hm) (obj_cut (c := c) (a := a) (dx := dx) h3 hl) ?_
          rw [zip_snd (by simpa using hl)]
          exact each h4 e1
        · cases e
theorem fzs_ok (hr : HR C ρ H h) {n : Nat} : ∀ {xs ys : List D} {vs : List V}, RDs C ρ H xs vs → eachM (fz N h n) xs = some ys → RDs C (cutR ρ N) H ys vs
  | [], _, _, r, e => by cases e; cases r; exact .nil
  | x :: xs, ys, vs, r, e => by
    unfold eachM at e
    split at e
    · rename_i y ys2 h1 h2
      cases e
      cases r with
      | cons r rs => exact .cons (fz_ok hr n r h1) (fzs_ok hr rs h2)
    · cases e
theorem fzO_ok (hr : HR C ρ H h) {n : Nat} {o o2 : MO} {u : HO} (r : OR C ρ H o u) (e : fzO N h n o = some o2) : OR C (cutR ρ N) H o2 u := by
  cases o with
  | lst xs =>
    obtain ⟨ys, e1, rfl⟩ := Option.map_eq_some_iff.mp e
    obtain ⟨vs, rfl, rs⟩ := r
    exact ⟨vs, rfl, fzs_ok hr rs e1⟩
  | dct ks vs =>
    obtain ⟨ys, e1, rfl⟩ := Option.map_eq_some_iff.mp e
    obtain ⟨kvs, rfl, hk, rs⟩ := r
    exact ⟨kvs, rfl, hk, fzs_ok hr rs e1⟩
  | ins c fs =>
    obtain ⟨ys, e1, rfl⟩ := Option.map_eq_some_iff.mp e
    obtain ⟨dx, fvs, rfl, hk, rs⟩ := r
    have hl := eachM_len e1
    refine ⟨dx, fvs, rfl, obj_cut (c := c) (a := dx) (dx := dx) hk hl, ?_⟩
    rw [zip_snd (by simpa using hl)]
    exact fzs_ok hr rs e1
theorem eachO_get {f : MO → Option MO} : ∀ {xs ys : MH}, eachO f xs = some ys → xs.length = ys.length ∧ ∀ (i : Nat) (y : MO), ys[i]? = some y → ∃ x, xs[i]? = some x ∧ f x = some y
  | [], _, e => by cases e; exact ⟨rfl, fun i y h => by cases h⟩
  | x :: xs, ys, e => by
    unfold eachO at e
    split at e
    · rename_i y ys2 h1 h2
      cases e
      obtain ⟨l, g⟩ := eachO_get h2
      refine ⟨by simp [l], fun i z h => ?_⟩
      cases i with
      | zero => cases h; exact ⟨x, rfl, h1⟩
      | succ i => exact g i z (by simpa using h)
    · cases e
theorem fin_ok {ρ ρ' : Rho} {H H' : Hp} {h h' : MH} {sh : Bool} {d d2 : D} {h2 : MH} {Q : VK} {v : V} (hr : HR C ρ H h) (x : Ext ρ H ρ' H') (hr' : HR C ρ' H' h') (rv : RD C ρ' H' d v) (e : fin sh h.length (d, h') = some (d2, h2)) (q : Ans C ρ H h2 d2 Q) : Q v H' := by
  unfold fin at e
  cases sh with
  | false => cases e; exact q ρ' H' v x hr' rv
  | true =>
    rw [if_pos rfl] at e
    dsimp only at e
    split at e
    · rename_i d3 h3 e1 e2
      cases e
      obtain ⟨hl, hg⟩ := eachO_get e2
      have hlen : h.length ≤ h'.length := by
        rcases Nat.eq_zero_or_pos h.length with z | z
        · omega
        · obtain ⟨a, ha⟩ := hr.dom (h.length - 1) (by omega)
          have := hr'.rng _ _ (x.sub _ _ ha)
          omega
      have hl2 : h2.length = h.length := by rw [← hl, List.length_take]; omega
      refine q (cutR ρ' h.length) H' v ⟨fun n a e => ?_, fun n a e e' => ?_, x.keep, x.live, x.hid⟩ ⟨fun n hn => ?_, fun n a e => ?_, fun n m a e1 e2 => ?_, fun n a o e1 e2 => ?_, hr'.hid, fun n a e => ?_⟩ (fz_ok hr' 12 rv e1)
      · show (if n < h.length then ρ' n else none) = some a
        rw [if_pos (hr.rng n a e)]
        exact x.sub n a e
      · have e' : (if n < h.length then ρ' n else none) = some a := e'
        split at e'
        · exact x.new n a e e'
        · cases e'
      · rw [hl2] at hn
        obtain ⟨a, ha⟩ := hr'.dom n (by omega)
        exact ⟨a, show (if n < h.length then ρ' n else none) = some a by rw [if_pos hn]; exact ha⟩
      · have e : (if n < h.length then ρ' n else none) = some a := e
        split at e
        · rw [hl2]; assumption
        · cases e
      · have e1 : (if n < h.length then ρ' n else none) = some a := e1
        have e2 : (if m < h.length then ρ' m else none) = some a := e2
        split at e1 <;> split at e2 <;> first | exact hr'.inj n m a e1 e2 | (cases e1; done) | (cases e2; done)
      · have e1 : (if n < h.length then ρ' n else none) = some a := e1
        split at e1
        · rename_i hn
          obtain ⟨o1, g1, g2⟩ := hg n o e2
          rw [List.getElem?_take_of_lt hn] at g1
          obtain ⟨u, k1, k2⟩ := hr'.obj n a o1 e1 g1
          exact ⟨u, k1, fzO_ok hr' k2 g2⟩
        · cases e1
      · have e : (if n < h.length then ρ' n else none) = some a := e
        split at e
        · exact hr'.dis n a e
        · cases e
    · cases e
end
end EV

set_option Elab.async false
set_option linter.all false
set_option maxRecDepth 100000
set_option maxHeartbeats 4000000
namespace EV
open PySem PySem.Spec PyProof.Rows L2
mutual
def pd : D → PyData
  | .bl b => .bool b
  | .int i => .int i
  | .str s => .str (mk s)
  | .tup xs => .tuple (pds xs)
  | .lst xs => .list (pds xs)
  | _ => .none
def pds : List D → List PyData
  | [] => []
  | x :: xs => pd x :: pds xs
end
section
variable {C : Cn} {ρ : Rho} {H : Hp}
mutual
theorem RD.dp : ∀ {n : Nat} {d : D} {v : V}, plain n d = true → RD C ρ H d v → Dp C.K H v (pd d)
  | _, _, _, _, .non => .non
  | _, _, _, _, .bl b => .bl b
  | _, _, _, _, .int i => .int i
  | _, _, _, _, .str s h => .str _
  | 0, _, _, hp, .tup h n r => by cases hp
  | n + 1, _, _, hp, .tup h _ r => .tup (.inl h) (RDs.dp (n := n) hp r)
  | 0, _, _, hp, .tupK a b c d e r => by cases hp
  | n + 1, _, _, hp, .tupK a b c d e r => .tup (.inr ⟨_, _, _, a, b, c, d, e⟩) (RDs.dp (n := n) hp r)
  | 0, _, _, hp, .lst h n r => by cases hp
  | n + 1, _, _, hp, .lst h _ r => .lst (.inl (.inl h)) (RDs.dp (n := n) hp r)
  | n, _, _, hp, .scr h k => by cases n <;> cases hp
  | n, _, _, hp, .scrK _ _ _ _ _ _ => by cases n <;> cases hp
  | n, _, _, hp, .adr h => by cases n <;> cases hp
  | n, _, _, hp, .dct h k e r => by cases n <;> cases hp
  | n, _, _, hp, .dctK h e r => by cases n <;> cases hp
  | n, _, _, hp, .obj h k e r => by cases n <;> cases hp
  | n, _, _, hp, .rep h => by cases n <;> cases hp
  | n, .cls c, _, hp, _ => by cases n <;> cases hp
theorem RDs.dp : ∀ {n : Nat} {ds : List D} {vs : List V}, plains n ds = true → RDs C ρ H ds vs → DpAll C.K H vs (pds ds)
  | _, _, _, _, .nil => .nil
  | n, _ :: _, _, hp, .cons h r => by
    have h2 := Bool.and_eq_true_iff.mp hp
    exact .cons (RD.dp (n := n) h2.1 h) (RDs.dp (n := n) h2.2 r)
end
mutual
theorem pd_lay : ∀ {n : Nat} {d : D} {v : V}, plain n d = true → RD C ρ H d v → (pd d).canLay0 = true ∧ (pd d).depth ≤ n
  | n, _, _, _, .non => ⟨rfl, Nat.zero_le _⟩
  | n, _, _, _, .bl b => ⟨rfl, Nat.zero_le _⟩
  | n, _, _, _, .int i => ⟨rfl, Nat.zero_le _⟩
  | n, _, _, _, .str s h => by
    refine ⟨?_, Nat.zero_le _⟩
    show PyData.strOk (mk s) = true
    unfold PyData.strOk mk
    rw [List.all_toArray]
    refine List.all_eq_true.mpr fun c hc => decide_eq_true ?_
    have := okS_lt h c hc
    omega
  | 0, _, _, hp, .tup h n r => by cases hp
  | n + 1, .tup ds, _, hp, .tup h _ r => by
    have q := pds_lay (n := n) hp r
    exact ⟨q.1, Nat.succ_le_succ q.2⟩
  | 0, _, _, hp, .tupK a b c d e r => by cases hp
  | n + 1, .tup ds, _, hp, .tupK a b c d e r => by
    have q := pds_lay (n := n) hp r
    exact ⟨q.1, Nat.succ_le_succ q.2⟩
  | 0, _, _, hp, .lst h n r => by cases hp
  | n + 1, .lst ds, _, hp, .lst h _ r => by
    have q := pds_lay (n := n) hp r
    exact ⟨q.1, Nat.succ_le_succ q.2⟩
  | n, _, _, hp, .scr h k => by cases n <;> cases hp
  | n, _, _, hp, .scrK _ _ _ _ _ _ => by cases n <;> cases hp
  | n, _, _, hp, .adr h => by cases n <;> cases hp
  | n, _, _, hp, .dct h k e r => by cases n <;> cases hp
  | n, _, _, hp, .dctK h e r => by cases n <;> cases hp
  | n, _, _, hp, .obj h k e r => by cases n <;> cases hp
  | n, _, _, hp, .rep h => by cases n <;> cases hp
  | n, .cls c, _, hp, _ => by cases n <;> cases hp
theorem pds_lay : ∀ {n : Nat} {ds : List D} {vs : List V}, plains n ds = true → RDs C ρ H ds vs → PyData.canLayAll0 (pds ds) = true ∧ PyData.depthAll (pds ds) ≤ n
  | n, _, _, _, .nil => ⟨rfl, Nat.zero_le _⟩
  | n, _ :: _, _, hp, .cons h r => by
    have h2 := Bool.and_eq_true_iff.mp hp
    have q1 := pd_lay (n := n) h2.1 h
    have q2 := pds_lay (n := n) h2.2 r
    exact ⟨Bool.and_eq_true_iff.mpr ⟨q1.1, q2.1⟩, Nat.max_le.mpr ⟨q1.2, q2.2⟩⟩
end
theorem mk_beq (a b : S) : ((mk a) == (mk b)) = (a == b) := by
  by_cases e : a = b
  · subst e; simp
  · have : mk a ≠ mk b := fun z => e (mk_inj z)
    rw [beq_eq_false_iff_ne.mpr this, beq_eq_false_iff_ne.mpr e]
mutual
theorem pd_eqv : ∀ (d e : D) (n m : Nat), plain n d = true → plain m e = true → PyData.eqv (pd d) (pd e) = deq d e
  | .non, e, n, m, h1, h2 => by cases e <;> first | rfl | (cases m <;> cases h2)
  | .bl b, e, n, m, h1, h2 => by cases e <;> first | rfl | (cases m <;> cases h2)
  | .int i, e, n, m, h1, h2 => by cases e <;> first | rfl | (cases m <;> cases h2)
  | .str s, e, n, m, h1, h2 => by
    cases e <;> first | rfl | (cases m <;> cases h2 <;> done) | exact mk_beq _ _
  | .tup xs, e, n, m, h1, h2 => by
    cases e <;> first | rfl | (cases m <;> cases h2 <;> done) | skip
    rename_i ys
    cases n with
    | zero => cases h1
    | succ n =>
      cases m with
      | zero => cases h2
      | succ m => exact pds_eqv xs ys n m h1 h2
  | .lst xs, e, n, m, h1, h2 => by
    cases e <;> first | rfl | (cases m <;> cases h2 <;> done) | skip
    rename_i ys
    cases n with
    | zero => cases h1
    | succ n =>
      cases m with
      | zero => cases h2
      | succ m => exact pds_eqv xs ys n m h1 h2
  | .scr _, e, n, m, h1, h2 => by cases n <;> cases h1
  | .adr _, e, n, m, h1, h2 => by cases n <;> cases h1
  | .dct _ _, e, n, m, h1, h2 => by cases n <;> cases h1
  | .obj _ _, e, n, m, h1, h2 => by cases n <;> cases h1
theorem pds_eqv : ∀ (ds es : List D) (n m : Nat), plains n ds = true → plains m es = true → PyData.eqvAll (pds ds) (pds es) = deqs ds es
  | [], [], _, _, _, _ => rfl
  | [], _ :: _, _, _, _, _ => rfl
  | _ :: _, [], _, _, _, _ => rfl
  | x :: xs, y :: ys, n, m, h1, h2 => by
    have a := Bool.and_eq_true_iff.mp h1
    have b := Bool.and_eq_true_iff.mp h2
    show (PyData.eqv (pd x) (pd y) && PyData.eqvAll (pds xs) (pds ys)) = (deq x y && deqs xs ys)
    rw [pd_eqv x y n m a.1 b.1, pds_eqv xs ys n m a.2 b.2]
end
theorem pds_any (d : D) (n : Nat) (hd : plain n d = true) : ∀ (xs : List D) (m : Nat), plains m xs = true → ((pds xs).any fun z => PyData.eqv z (pd d)) = xs.any fun z => deq z d
  | [], _, _ => rfl
  | x :: xs, m, h => by
    have a := Bool.and_eq_true_iff.mp h
    show (PyData.eqv (pd x) (pd d) || (pds xs).any fun z => PyData.eqv z (pd d)) = (deq x d || xs.any fun z => deq z d)
    rw [pd_eqv x d m n a.1 hd, pds_any d n hd xs m a.2]
/-- what == asks, of a list of the small heap too -/
theorem thaw_dp {h : MH} {d : D} {v : V} (hr : HR C ρ H h) (hp : plain 60 (thaw h d) = true) (r : RD C ρ H d v) : Dp C.K H v (pd (thaw h d)) ∧ SeqAt.shaped (pd (thaw h d)) = true := by
  have sh : ∀ {e : D} {w : V}, plain 60 e = true → RD C ρ H e w → Dp C.K H w (pd e) ∧ SeqAt.shaped (pd e) = true := fun {e w} h1 h2 => by
    have q := pd_lay h1 h2
    exact ⟨h2.dp h1, Bool.and_eq_true_iff.mpr ⟨q.1, decide_eq_true (Nat.le_trans q.2 (by decide))⟩⟩
  cases d with
  | adr n =>
    have e : thaw h (.adr n) = (match h[n]? with | some (.lst xs) => .lst xs | _ => .adr n) := rfl
    rw [e] at hp ⊢
    split at hp
    · rename_i xs hx
      cases r with
      | adr q =>
        obtain ⟨u, h1, vs, rfl, h3⟩ := hr.obj _ _ _ q hx
        have hp' : plains 59 xs = true := hp
        have q1 := h3.dp hp'
        have q2 := pds_lay hp' h3
        exact ⟨.lst (.inl (.inl h1)) q1, Bool.and_eq_true_iff.mpr ⟨q2.1, decide_eq_true (by show PyData.depthAll (pds xs) + 1 ≤ 64; omega)⟩⟩
    · cases hp
  | _ => exact sh hp r
end
section
variable {X : Cx} {C : Cn}
def rCmp (C : Cn) (op : CmpOp) : R2 := fun x y H Q => ∃ ρ h dx dy b, HR C ρ H h ∧ RD C ρ H dx x ∧ RD C ρ H dy y ∧ cmpD op dx dy h = some b ∧ Ans C ρ H h (.bl b) Q
theorem flat_V {C : Cn} {ρ : Rho} {H : Hp} {d : D} {v : V} (f : flat d = true) (r : RD C ρ H d v) : flatV v = true := by
  cases r <;> first | rfl | cases f
theorem eq_V {C : Cn} {ρ : Rho} {H : Hp} {d e : D} {v w : V} (f : flat d = true) (g : flat e = true) (r : RD C ρ H d v) (q : RD C ρ H e w) : eqV v w = deq d e := by
  cases r <;> first | (cases f; done) | skip
  all_goals cases q <;> first | rfl | (cases g; done) | exact mk_beq _ _
theorem flat_Vs {C : Cn} {ρ : Rho} {H : Hp} : ∀ {ds : List D} {vs : List V}, ds.all flat = true → RDs C ρ H ds vs → vs.all flatV = true
  | _, _, _, .nil => rfl
  | _ :: _, _, f, .cons h r => by
    rw [List.all_cons, Bool.and_eq_true] at f
    rw [List.all_cons, Bool.and_eq_true]
    exact ⟨flat_V f.1 h, flat_Vs f.2 r⟩
theorem in_V {C : Cn} {ρ : Rho} {H : Hp} {e : D} {w : V} (g : flat e = true) (q : RD C ρ H e w) : ∀ {ds : List D} {vs : List V}, ds.all flat = true → RDs C ρ H ds vs → inV w vs = ds.any fun z => deq z e
  | _, _, _, .nil => rfl
  | d :: ds, v :: vs, f, .cons h r => by
    rw [List.all_cons, Bool.and_eq_true] at f
    show (eqV v w || inV w vs) = (deq d e || ds.any fun z => deq z e)
    rw [eq_V f.1 g h q, in_V g q f.2 r]
theorem look_S {C : Cn} {ρ : Rho} {H : Hp} (z : S) : ∀ {kvs : List (S × V)} {vs : List D}, RDs C ρ H vs (kvs.map (·.2)) → match lookS z kvs with
    | some v => ∃ d, look (.str z) (kvs.map fun q => D.str q.1) vs = some d ∧ RD C ρ H d v
    | none => look (.str z) (kvs.map fun q => D.str q.1) vs = none
  | [], vs, r => by cases r; rfl
  | (k, v) :: kvs, d0 :: vs, .cons h r => by
    have ih := look_S z r
    unfold lookS
    have e : deq (.str k) (.str z) = decide (k = z) := by
      show (k == z) = _
      rw [Bool.beq_eq_decide_eq]
    by_cases hk : k = z
    · rw [if_pos hk]
      refine ⟨_, ?_, h⟩
      show (if deq (.str k) (.str z) = true then _ else _) = _
      rw [e, decide_eq_true hk]
      rfl
    · rw [if_neg hk]
      have e2 : look (.str z) (((k, v) :: kvs).map fun q => D.str q.1) (d0 :: vs) = look (.str z) (kvs.map fun q => D.str q.1) vs := by
        show (if deq (.str k) (.str z) = true then _ else _) = _
        rw [e, decide_eq_false hk]
        rfl
      rw [e2]
      exact ih
end
end EV

set_option Elab.async false
set_option linter.all false
set_option maxRecDepth 100000
set_option maxHeartbeats 4000000
namespace EV
open PySem PySem.Spec PyProof.Rows L2
section
variable {X : Cx} {C : Cn}
theorem valV_look {C : Cn} {ρ : Rho} {H : Hp} {x : D} {kx : Key} (hx : keyV x = some kx) : ∀ {ks vs : List D} {kvs : List (Key × V)}, ks.map keyV = kvs.map (fun q => some q.1) → RDs C ρ H vs (kvs.map (·.2)) → match look x ks vs with
    | some d => ∃ v, valV kvs kx = some v ∧ RD C ρ H d v
    | none => valV kvs kx = none
  | [], _, [], _, r => by cases r; rfl
  | [], _, _ :: _, e, _ => by cases e
  | _ :: _, _, [], e, _ => by cases e
  | k :: ks, d0 :: vs, (kk, v) :: kvs, e, .cons h r => by
    have e1 : keyV k = some kk ∧ ks.map keyV = kvs.map (fun q => some q.1) := by
      injection e with e1 e2
      exact ⟨e1, e2⟩
    have ih := valV_look hx e1.2 r
    have ek : deq k x = decide (kk = kx) := by
      cases k with
      | int i =>
        cases e1.1
        cases x with
        | int j => cases hx; rw [key_ll]; rfl
        | str s => cases hx; rw [key_lr]; rfl
        | _ => cases hx
      | str i =>
        cases e1.1
        cases x with
        | int j => cases hx; rw [key_rl]; rfl
        | str s =>
          cases hx
          rw [key_rr]
          show (i == s) = _
          by_cases q : i = s
          · subst q; simp
          · have : mk i ≠ mk s := fun z => q (mk_inj z)
            rw [decide_eq_false this]
            simp [q]
        | _ => cases hx
      | _ => cases e1.1
    by_cases q : kk = kx
    · have e3 : look x (k :: ks) (d0 :: vs) = some d0 := by
        show (if deq k x = true then _ else _) = _
        rw [ek, decide_eq_true q]
        rfl
      rw [e3]
      exact ⟨v, by rw [valV_pos q], h⟩
    · have e3 : look x (k :: ks) (d0 :: vs) = look x ks vs := by
        show (if deq k x = true then _ else _) = _
        rw [ek, decide_eq_false q]
        rfl
      rw [e3, valV_neg (p := (kk, v)) q]
      exact ih
theorem keyD_V {x : D} (h : keyD x = true) : ∃ k, keyV x = some k := by
  cases x <;> first | exact ⟨_, rfl⟩ | cases h
theorem keyV_kV {C : Cn} {ρ : Rho} {H : Hp} {x : D} {k : Key} {v : V} (h : keyV x = some k) (r : RD C ρ H x v) : v = kV k := by
  cases r <;> first | (cases h; rfl) | cases h
theorem dct_at {C : Cn} {ρ : Rho} {H : Hp} {h : MH} {d : D} {v : V} {ks vs : List D} (hr : HR C ρ H h) (e : dctD h d = some (ks, vs)) (r : RD C ρ H d v) :
    ∃ a, v = .ref a ∧ ((∃ kvs, H a = some (.dK kvs) ∧ ks.map keyV = kvs.map (fun q => some q.1) ∧ RDs C ρ H vs (kvs.map (·.2))) ∨ ∃ kvs, DctW C.K C.w a kvs ∧ ks = kvs.map (fun q => D.str q.1) ∧ RDs C ρ H vs (kvs.map (·.2))) := by
  cases r with
  | dct a b c d => cases e; exact ⟨_, rfl, .inl ⟨_, a, c, d⟩⟩
  | dctK a b c => cases e; exact ⟨_, rfl, .inr ⟨_, a, b, c⟩⟩
  | @adr n a q =>
    have e' : (match h[n]? with | some (.dct ks vs) => some (ks, vs) | _ => none) = some (ks, vs) := e
    split at e'
    · rename_i k2 v2 hy
      cases e'
      obtain ⟨u, h1, kvs, rfl, h3, h4⟩ := hr.obj _ _ _ q hy
      exact ⟨a, rfl, .inl ⟨kvs, h1, h3, h4⟩⟩
    · cases e'
  | _ => cases e
theorem dec_contains (c : Nat) (s : S) : decide (c ∈ (mk s).cps.toList) = s.contains c := by
  rw [mk_tl]
  by_cases h : c ∈ s
  · rw [decide_eq_true h, List.contains_iff_mem.mpr h]
  · rw [decide_eq_false h]
    exact (Bool.eq_false_iff.mpr fun z => h (List.contains_iff_mem.mp z)).symm
def InCase (K : PySem.W.Frag) (w : World) (H : Hp) (x y : V) (b : Bool) : Prop :=
  (∃ (c : Nat) (z : Str), x = .str ⟨#[c]⟩ ∧ y = .str z ∧ decide (c ∈ z.cps.toList) = b) ∨
  (∃ a vs, y = .ref a ∧ (SqL K H a vs ∨ SqT K H a vs) ∧ flatV x = true ∧ vs.all flatV = true ∧ inV x vs = b) ∨
  (∃ d ds, Dp K H x d ∧ Dp K H y (.list ds) ∧ SeqAt.shaped d = true ∧ SeqAt.shaped (.list ds) = true ∧ (ds.any fun z => PyData.eqv z d) = b) ∨
  (∃ a o, y = .ref a ∧ DGet H a x o ∧ o.isSome = b) ∨
  (∃ a es n z r, KDict K w a es n ∧ x = .str z ∧ y = .ref a ∧ PySem.W.nsIn K a z = some r ∧ r.isSome = b)
theorem in_core {C : Cn} {ρ : Rho} {H : Hp} {h : MH} {dx dy : D} {x y : V} {b : Bool} (hr : HR C ρ H h) (r1 : RD C ρ H dx x) (r2 : RD C ρ H dy y) (e0 : inD dx dy h = some b) : InCase C.K C.w H x y b := by
  unfold inD at e0
  split at e0
  · cases e0
    obtain ⟨_, rfl⟩ := r1.okS_
    obtain ⟨_, rfl⟩ := r2.okS_
    exact .inl ⟨_, _, rfl, rfl, dec_contains _ _⟩
  · split at e0
    · rename_i xs hs
      obtain ⟨a, vs, rfl, ha, ra⟩ := seq_at hr hs r2
      split at e0
      · rename_i hf
        cases e0
        rw [Bool.and_eq_true] at hf
        exact .inr (.inl ⟨a, vs, rfl, ha, flat_V hf.1 r1, flat_Vs hf.2 ra, in_V hf.1 r1 hf.2 ra⟩)
      · split at e0
        · rename_i ys hl
          split at e0
          · rename_i hf
            cases e0
            rw [Bool.and_eq_true] at hf
            obtain ⟨a', vs', e', ha', ra'⟩ := lst_at hr hl r2
            cases e'
            have p1 := r1.dp hf.1
            have l1 := pd_lay hf.1 r1
            have p2 := ra'.dp hf.2
            have l2 := pds_lay hf.2 ra'
            exact .inr (.inr (.inl ⟨_, _, p1, .lst (.inl (.inl ha')) p2, Bool.and_eq_true_iff.mpr ⟨l1.1, decide_eq_true (by omega)⟩, Bool.and_eq_true_iff.mpr ⟨l2.1, decide_eq_true (by show PyData.depthAll _ + 1 ≤ 64; omega)⟩, pds_any dx 60 hf.1 ys 60 hf.2⟩))
          · cases e0
        · cases e0
    · split at e0
      · rename_i ks vs hd
        split at e0
        · rename_i z _
          cases e0
          obtain ⟨a, rfl, c⟩ := dct_at hr hd r2
          obtain ⟨_, rfl⟩ := r1.okS_
          rcases c with ⟨kvs, ha, hks, rv⟩ | ⟨kvs, W, hks, rv⟩
          · have lk := valV_look (x := .str z) rfl hks rv
            refine .inr (.inr (.inr (.inl ⟨a, _, rfl, DGet.k (k := .inr (mk z)) ha, ?_⟩)))
            split at lk
            · rename_i d hd
              obtain ⟨v, e1, _⟩ := lk
              rw [hd, e1] <;> rfl
            · rename_i hd
              rw [hd, lk] <;> rfl
          · have lk := look_S z rv
            obtain ⟨es, n, D0⟩ := W.at_
            have g := W.get z
            subst hks
            split at lk
            · rename_i v hv
              rw [hv] at g
              obtain ⟨u, g1, _⟩ := g
              obtain ⟨d, l1, _⟩ := lk
              exact .inr (.inr (.inr (.inr ⟨a, es, n, _, _, D0, rfl, rfl, g1, by rw [l1]; rfl⟩)))
            · rename_i hv
              rw [hv] at g
              exact .inr (.inr (.inr (.inr ⟨a, es, n, _, _, D0, rfl, rfl, g, by rw [lk]; rfl⟩)))
        · cases e0
      · cases e0
theorem op_in (hK : X.K = C.K) (hw : X.w = C.w) (hu : X.A.units + 65 < cLine) : OpR X (compareOp .In) (rCmp C .In) := by
  intro pins s σ H x y v u Q I rx ry hq
  obtain ⟨ρ, h, dx, dy, b, hr, r1, r2, e, q⟩ := hq
  have c := in_core hr r1 r2 e
  have q0 : Q (.bl b) H := q.here hr (.bl _)
  rw [← hK, ← hw] at c
  rcases c with ⟨c, z, rfl, rfl, rfl⟩ | ⟨a, vs, rfl, ha, f1, f2, rfl⟩ | ⟨d, ds, p1, p2, s1, s2, rfl⟩ | ⟨a, o, rfl, g, rfl⟩ | ⟨a, es, n, z, r, D0, rfl, rfl, g, rfl⟩
  · exact op_in_sign pins s σ H _ _ v u Q I rx ry ⟨_, _, rfl, rfl, q0⟩
  · exact op_in_seq pins s σ H _ _ v u Q I rx ry ⟨a, vs, rfl, ha, f1, f2, q0⟩
  · exact op_inD hu pins s σ H _ _ v u Q I rx ry ⟨_, _, p1, p2, s1, s2, q0⟩
  · cases (show u = Value.ref a from ry)
    exact d_in (by omega) I g rx fun s' I' => ⟨.bl _, H, I', rfl, q0⟩
  · exact op_in_kd D0 pins s σ H _ _ v u Q I rx ry ⟨_, _, rfl, rfl, g, q0⟩
theorem op_notin (hK : X.K = C.K) (hw : X.w = C.w) (hu : X.A.units + 65 < cLine) : OpR X (compareOp .NotIn) (rCmp C .NotIn) := by
  intro pins s σ H x y v u Q I rx ry hq
  obtain ⟨ρ, h, dx, dy, b0, hr, r1, r2, e, q⟩ := hq
  have e1 : (inD dx dy h).map (!·) = some b0 := e
  obtain ⟨b, e2, rfl⟩ := Option.map_eq_some_iff.mp e1
  have c := in_core hr r1 r2 e2
  have q0 : Q (.bl (!b)) H := q.here hr (.bl _)
  rw [← hK, ← hw] at c
  rcases c with ⟨c, z, rfl, rfl, rfl⟩ | ⟨a, vs, rfl, ha, f1, f2, rfl⟩ | ⟨d, ds, p1, p2, s1, s2, rfl⟩ | ⟨a, o, rfl, g, rfl⟩ | ⟨a, es, n, z, r, D0, rfl, rfl, g, rfl⟩
  · exact op_notIn_sign pins s σ H _ _ v u Q I rx ry ⟨_, _, rfl, rfl, q0⟩
  · exact op_notIn_seq pins s σ H _ _ v u Q I rx ry ⟨a, vs, rfl, ha, f1, f2, q0⟩
  · exact op_notInD hu pins s σ H _ _ v u Q I rx ry ⟨_, _, p1, p2, s1, s2, q0⟩
  · cases (show u = Value.ref a from ry)
    exact d_notIn (by omega) I g rx fun s' I' => ⟨.bl _, H, I', rfl, q0⟩
  · exact op_notIn_kd D0 pins s σ H _ _ v u Q I rx ry ⟨_, _, rfl, rfl, g, q0⟩
theorem isnon_eq {C : Cn} {ρ : Rho} {H : Hp} {d : D} {v : V} (r : RD C ρ H d v) : decide (v = V.non) = isNonD d := by
  cases r <;> rfl
mutual
theorem same_P : ∀ {d e : D}, same d e = true → toP d = toP e
  | .non, .non, _ => rfl
  | .bl a, .bl b, h => by rw [show a = b from by simpa [same] using h]
  | .int a, .int b, h => by rw [show a = b from by simpa [same] using h]
  | .str a, .str b, h => by rw [show a = b from by simpa [same] using h]
  | .lst a, .lst b, h => by
    have := sames_P (d := a) (e := b) h
    show (toPs a).map _ = (toPs b).map _
    rw [this]
  | .tup a, .tup b, h => by
    have := sames_P (d := a) (e := b) h
    show (toPs a).map _ = (toPs b).map _
    rw [this]
theorem sames_P : ∀ {d e : List D}, sames d e = true → toPs d = toPs e
  | [], [], _ => rfl
  | x :: xs, y :: ys, h => by
    have h2 := Bool.and_eq_true_iff.mp h
    have h3 := same_P h2.1
    have h4 := sames_P h2.2
    unfold toPs
    rw [h3, h4]
end
theorem rep_V {C : Cn} {ρ : Rho} {H : Hp} {dx dy : D} {b : Bool} {x y : V} (e : repEq dx dy = some b) (r1 : RD C ρ H dx x) (r2 : RD C ρ H dy y) : ∃ p : PyData, x = .str p.shown ∧ y = .str p.shown ∧ b = true := by
  unfold repEq at e
  split at e
  · split at e
    · rename_i hs
      cases e
      cases r1 with | rep h1 => cases r2 with | rep h2 =>
        rw [same_P hs, h2] at h1
        cases h1
        exact ⟨_, rfl, rfl, rfl⟩
    · cases e
  · cases e
theorem op_cmp (hK : X.K = C.K) (hw : X.w = C.w) (hu : X.A.units + 65 < cLine) {op : CmpOp} : OpR X (compareOp op) (rCmp C op) := by
  intro pins s σ H x y v u Q I rx ry hq
  cases op with
  | In => exact op_in hK hw hu pins s σ H x y v u Q I rx ry hq
  | NotIn => exact op_notin hK hw hu pins s σ H x y v u Q I rx ry hq
  | Eq =>
    obtain ⟨ρ, h, dx, dy, b, hr, r1, r2, e, q⟩ := hq
    have e1 : (if isRep dx || isRep dy then repEq dx dy else if plain 60 (thaw h dx) && plain 60 (thaw h dy) then some (deq (thaw h dx) (thaw h dy)) else none) = some b := e
    split at e1
    · obtain ⟨p, rfl, rfl, rfl⟩ := rep_V e1 r1 r2
      refine op_eq pins s σ H _ _ v u Q I rx ry ⟨rfl, ?_⟩
      rw [decide_eq_true rfl]
      exact q.here hr (.bl _)
    split at e1
    · rename_i hf
      cases e1
      rw [Bool.and_eq_true] at hf
      have a := thaw_dp hr hf.1 r1
      have c := thaw_dp hr hf.2 r2
      rw [← hK] at a c
      refine op_eqD (by omega) pins s σ H x y v u Q I rx ry ⟨_, _, a.1, c.1, a.2, c.2, ?_⟩
      rw [pd_eqv _ _ 60 60 hf.1 hf.2]
      exact q.here hr (.bl _)
    · cases e1
  | NotEq =>
    obtain ⟨ρ, h, dx, dy, b, hr, r1, r2, e, q⟩ := hq
    have e1 : (if isRep dx || isRep dy then (repEq dx dy).map (!·) else if plain 60 (thaw h dx) && plain 60 (thaw h dy) then some (!deq (thaw h dx) (thaw h dy)) else none) = some b := e
    split at e1
    · obtain ⟨c, e2, rfl⟩ := Option.map_eq_some_iff.mp e1
      obtain ⟨p, rfl, rfl, rfl⟩ := rep_V e2 r1 r2
      refine op_ne pins s σ H _ _ v u Q I rx ry ⟨rfl, ?_⟩
      rw [decide_eq_true rfl]
      exact q.here hr (.bl _)
    split at e1
    · rename_i hf
      cases e1
      rw [Bool.and_eq_true] at hf
      have a := thaw_dp hr hf.1 r1
      have c := thaw_dp hr hf.2 r2
      rw [← hK] at a c
      refine op_neD (by omega) pins s σ H x y v u Q I rx ry ⟨_, _, a.1, c.1, a.2, c.2, ?_⟩
      rw [pd_eqv _ _ 60 60 hf.1 hf.2]
      exact q.here hr (.bl _)
    · cases e1
  | Lt =>
    obtain ⟨ρ, h, dx, dy, b, hr, r1, r2, e, q⟩ := hq
    have e1 : cmpI (fun i j => decide (i < j)) dx dy = some b := e
    unfold cmpI at e1
    split at e1
    · cases e1; cases r1; cases r2
      exact op_lt pins s σ H _ _ v u Q I rx ry ⟨_, _, rfl, rfl, q.here hr (.bl _)⟩
    · cases e1
  | LtE =>
    obtain ⟨ρ, h, dx, dy, b, hr, r1, r2, e, q⟩ := hq
    have e1 : cmpI (fun i j => decide (i ≤ j)) dx dy = some b := e
    unfold cmpI at e1
    split at e1
    · cases e1; cases r1; cases r2
      exact op_le pins s σ H _ _ v u Q I rx ry ⟨_, _, rfl, rfl, q.here hr (.bl _)⟩
    · cases e1
  | Gt =>
    obtain ⟨ρ, h, dx, dy, b, hr, r1, r2, e, q⟩ := hq
    have e1 : cmpI (fun i j => decide (j < i)) dx dy = some b := e
    unfold cmpI at e1
    split at e1
    · cases e1; cases r1; cases r2
      exact op_gt pins s σ H _ _ v u Q I rx ry ⟨_, _, rfl, rfl, q.here hr (.bl _)⟩
    · cases e1
  | GtE =>
    obtain ⟨ρ, h, dx, dy, b, hr, r1, r2, e, q⟩ := hq
    have e1 : cmpI (fun i j => decide (j ≤ i)) dx dy = some b := e
    unfold cmpI at e1
    split at e1
    · cases e1; cases r1; cases r2
      exact op_ge pins s σ H _ _ v u Q I rx ry ⟨_, _, rfl, rfl, q.here hr (.bl _)⟩
    · cases e1
  | Is =>
    obtain ⟨ρ, h, dx, dy, b, hr, r1, r2, e, q⟩ := hq
    have e1 : isD dx dy = some b := e
    unfold isD at e1
    split at e1
    · cases e1; cases r2
      refine op_isN pins s σ H _ _ v u Q I rx ry ⟨rfl, ?_⟩
      rw [isnon_eq r1]
      exact q.here hr (.bl _)
    · cases e1; cases r1; cases r2
      refine op_isBl pins s σ H _ _ v u Q I rx ry ⟨_, _, rfl, rfl, ?_⟩
      rw [← Bool.beq_eq_decide_eq]
      exact q.here hr (.bl _)
    · cases e1
  | IsNot =>
    obtain ⟨ρ, h, dx, dy, b0, hr, r1, r2, e, q⟩ := hq
    have e0 : (isD dx dy).map (!·) = some b0 := e
    obtain ⟨b, e1, rfl⟩ := Option.map_eq_some_iff.mp e0
    unfold isD at e1
    split at e1
    · cases e1; cases r2
      refine op_notN pins s σ H _ _ v u Q I rx ry ⟨rfl, ?_⟩
      rw [isnon_eq r1]
      exact q.here hr (.bl _)
    · cases e1; cases r1; cases r2
      refine op_notBl pins s σ H _ _ v u Q I rx ry ⟨_, _, rfl, rfl, ?_⟩
      rw [← Bool.beq_eq_decide_eq]
      exact q.here hr (.bl _)
    · cases e1
end
end EV

set_option Elab.async false
set_option linter.all false
set_option maxRecDepth 100000
set_option maxHeartbeats 4000000
namespace EV
open PySem PySem.Spec PyProof.Rows L2
section
variable {X : Cx} {C : Cn}
def rIdx (C : Cn) : R2 := fun x y H Q => ∃ ρ h dx dy z, HR C ρ H h ∧ RD C ρ H dx x ∧ RD C ρ H dy y ∧ idxD dx dy h = some z ∧ Ans C ρ H h z Q
theorem atI_of {α : Type} {xs : List α} {k : Int} {j : Nat} {v : α} (h : ix xs.length k = some j) (e : xs[j]? = some v) : atI xs k = some v := by
  unfold atI
  have : ixN xs.length k = ix xs.length k := rfl
  rw [this, h]
  exact e
theorem ix_any (hK : X.K = C.K) (hw : X.w = C.w) (hu : X.A.units + 65 < cLine) : IxR X (rIdx C) := by
  intro value slice pins s σ H x y v u Q I rx ry hq hs
  obtain ⟨ρ, h, dx, dy, z, hr, r1, r2, e, q⟩ := hq
  unfold idxD at e
  split at e
  · split at e
    · rename_i j hj
      split at e
      · rename_i c hc
        cases e
        obtain ⟨ok, rfl⟩ := r1.okS_
        cases r2
        rename_i s0 k _
        refine ix_str value slice pins s σ H _ _ v u Q I rx ry ⟨_, _, c, rfl, rfl, mk_small ok, atI_of (by rw [mk_tl]; exact hj) (by rw [mk_tl]; exact hc), ?_⟩ hs
        exact q.here hr (.str [c] (okS_of (by show 1 ≤ 100000; decide) fun c' hc' => by
          rw [List.mem_singleton] at hc'
          subst hc'
          exact okS_lt ok _ (List.mem_of_getElem? hc)))
      · cases e
    · cases e
  · split at e
    · rename_i xs hx
      obtain ⟨a, vs, rfl, ha, ra⟩ := seq_at hr hx r1
      split at e
      · split at e
        · rename_i j hj
          obtain ⟨w, e1, rw1⟩ := ra.get e
          cases r2
          have hl : xs.length = vs.length := ra.len
          rw [hl] at hj
          rw [← hK] at ha
          have g := atI_of hj e1
          have q0 : Q w H := q.here hr rw1
          rcases ha with ha | ha
          · exact ix_list value slice pins s σ H _ _ v u Q I rx ry ⟨a, vs, _, w, rfl, rfl, ha, g, q0⟩ hs
          · exact ix_tup value slice pins s σ H _ _ v u Q I rx ry ⟨a, vs, _, w, rfl, rfl, ha, g, q0⟩ hs
        · cases e
      · cases e
    · split at e
      · rename_i ks vs hd
        split at e
        · rename_i hk
          obtain ⟨k, ek⟩ := keyD_V hk
          obtain ⟨a, rfl, c⟩ := dct_at hr hd r1
          rcases c with ⟨kvs, ha, hks, rv⟩ | ⟨kvs, W, hks, rv⟩
          · have ev := keyV_kV ek r2
            subst ev
            have lk := valV_look ek hks rv
            rw [e] at lk
            obtain ⟨w, e1, rw1⟩ := lk
            cases (show v = Value.ref a from rx)
            have g : DGet H a (kV k) (some w) := by
              have := DGet.k (k := k) ha
              rw [e1] at this
              exact this
            refine tail_any (ops := [.ref a, u]) (dict_typeIs I g) PySem.F.slot_dict_getitem.lookup ?_ hs
            exact d_getItem (by omega) I g ry fun w' s' I' rw' => ⟨w, H, I', rw', q.here hr rw1⟩
          · cases dy with
            | str z0 =>
              obtain ⟨_, rfl⟩ := r2.okS_
              have lk := look_S z0 rv
              obtain ⟨es, n, D0⟩ := W.at_
              have g := W.get z0
              subst hks
              split at lk
              · rename_i w hv
                rw [hv] at g
                obtain ⟨u0, g1, g2⟩ := g
                obtain ⟨d, l1, l2⟩ := lk
                rw [l1] at e
                cases e
                cases (show v = Value.ref a from rx)
                rw [← hK, ← hw] at D0
                rw [← hK] at g1
                refine tail_any (ops := [.ref a, u]) (kd_type D0 I) PySem.F.slot_dict_getitem.lookup ?_ hs
                exact op_item_kd D0 pins s σ H (.ref a) (.str (mk z0)) (.ref a) u Q I (show L2.RelV (.ref a) (Value.ref a) from rfl) ry ⟨_, u0, w, rfl, rfl, g1, g2, q.here hr l2⟩
              · rw [lk] at e
                cases e
            | int z0 =>
              exfalso
              subst hks
              have : ∀ (kvs : List (S × V)) (vs : List D), look (.int z0) (kvs.map fun q => D.str q.1) vs = none := fun kvs => by
                induction kvs with
                | nil => intro vs; rfl
                | cons p r ih =>
                  intro vs
                  cases vs with
                  | nil => rfl
                  | cons d vs => exact ih vs
              rw [this] at e
              cases e
            | _ => cases hk
        · cases e
      · cases e

def rSlc (C : Cn) : V → Option Int → Option Int → Hp → VK → Prop := fun x lo hi H Q => ∃ ρ h dx z, HR C ρ H h ∧ RD C ρ H dx x ∧ slcD dx lo hi h = some z ∧ Ans C ρ H h z Q
theorem cut_eq {α : Type} (xs : List α) (lo hi : Option Int) : cut xs lo hi = (xs.drop (HT.sIx xs.length 0 lo)).take (HT.sIx xs.length xs.length hi - HT.sIx xs.length 0 lo) := rfl
theorem cut_okS {s : S} (h : okS s = true) (lo hi : Option Int) : okS (cut s lo hi) = true := by
  refine okS_of ?_ fun c hc => okS_lt h c ?_
  · have := okS_len h
    unfold cut
    rw [List.length_take, List.length_drop]
    omega
  · unfold cut at hc
    exact List.mem_of_mem_drop (List.mem_of_mem_take hc)
theorem cut_RDs {C : Cn} {ρ : Rho} {H : Hp} {xs : List D} {vs : List V} (r : RDs C ρ H xs vs) (lo hi : Option Int) : RDs C ρ H (cut xs lo hi) (cutV vs lo hi) := by
  have hl := r.len
  unfold cutV
  rw [cut_eq, hl]
  exact (r.drop _).take _
theorem cut_all {α : Type} (xs : List α) (lo hi : Option Int) (h : HT.sIx xs.length 0 lo = 0 ∧ HT.sIx xs.length xs.length hi = xs.length) : cut xs lo hi = xs := by
  rw [cut_eq, h.1, h.2, List.drop_zero, Nat.sub_zero, List.take_length]
theorem sl_any (hK : X.K = C.K) : SlR X (rSlc C) := by
  intro pins s σ H x v vl vu lo hi sl Q I rx hs pl pu hq
  obtain ⟨ρ, h, dx, z, hr, r1, e, q⟩ := hq
  unfold slcD at e
  split at e
  · cases e
    obtain ⟨ok, rfl⟩ := r1.okS_
    refine sl_str pins s σ H _ v vl vu lo hi sl Q I rx hs pl pu ⟨_, rfl, mk_small ok, ?_⟩
    have e2 : cutS (mk ‹S›) lo hi = mk (cut ‹S› lo hi) := by
      unfold cutS
      rw [mk_tl, mk_len]
      rfl
    rw [e2]
    exact q.here hr (.str _ (cut_okS ok lo hi))
  · cases e
    obtain ⟨a, vs, rfl, ha, ra⟩ := tup_at r1
    rw [← hK] at ha
    refine sl_tupA pins s σ H _ v vl vu lo hi sl Q I rx hs pl pu ⟨a, vs, rfl, ha, fun hw => ?_, fun _ p hp => q.newT hr (cut_RDs ra lo hi) hp⟩
    rw [← ra.len] at hw
    rw [cut_all _ _ _ hw] at q
    exact q.here hr r1
  · split at e
    · rename_i xs hx
      cases e
      obtain ⟨a, vs, rfl, ha, ra⟩ := lst_at hr hx r1
      exact sl_list pins s σ H _ v vl vu lo hi sl Q I rx hs pl pu ⟨a, vs, rfl, .inl (.inl ha), fun p hp => q.newL hr (cut_RDs ra lo hi) hp⟩
    · cases e

theorem tru_any (hK : X.K = C.K) {ρ : Rho} {H : Hp} {h : MH} {d : D} {v : V} {b : Bool} (hr : HR C ρ H h) (r : RD C ρ H d v) (e : truD h d = some b) : TruV X.K v H b := by
  unfold truD at e
  split at e
  · cases e; cases r; rfl
  · cases e; cases r; rfl
  · cases e; cases r; rfl
  · cases e
    obtain ⟨ok, rfl⟩ := r.okS_
    refine ⟨mk_small ok, ?_⟩
    rw [mk_len]
    rename_i s0
    cases s0 with
    | nil => rfl
    | cons c s1 =>
      show true = ((((s1.length + 1 : Nat) : Int)) != 0)
      have : (((s1.length + 1 : Nat) : Int)) ≠ 0 := by omega
      exact (bne_iff_ne.mpr this).symm
  · split at e
    · rename_i xs hx
      cases e
      obtain ⟨a, vs, rfl, ha, ra⟩ := seq_at hr hx r
      have e2 : (!xs.isEmpty) = !vs.isEmpty := by
        cases ra <;> rfl
      rw [← hK] at ha
      rcases ha with ha | ha
      · exact .inl ⟨vs, ha, e2⟩
      · exact .inr (.inl ⟨vs, ha, e2⟩)
    · cases e
end
end EV

set_option Elab.async false
set_option linter.all false
set_option maxRecDepth 100000
set_option maxHeartbeats 4000000
namespace EV
open PySem PySem.Spec PyProof.Rows L2
section
variable {X : Cx} {C : Cn}
def rBif (C : Cn) (b : Bi) : List V → Hp → VK → Prop := fun vs H Q => ∃ ρ h ds z h', HR C ρ H h ∧ RDs C ρ H ds vs ∧ bifD b ds h = some (z, h') ∧ Ans C ρ H h' z Q
theorem allB_V {C : Cn} {ρ : Rho} {H : Hp} : ∀ {ds : List D} {vs : List V} {bs : List Bool}, allB ds = some bs → RDs C ρ H ds vs → vs = bs.map V.bl
  | _, _, _, e, .nil => by cases e; rfl
  | d :: ds, v :: vs, bs, e, .cons h r => by
    cases h <;> first | cases e | skip
    rename_i b
    have e1 : (allB ds).map (b :: ·) = some bs := e
    obtain ⟨cs, e2, rfl⟩ := Option.map_eq_some_iff.mp e1
    rw [allB_V e2 r]
    rfl
theorem allS_V {C : Cn} {ρ : Rho} {H : Hp} : ∀ {ds : List D} {vs : List V} {bs : List S}, allS ds = some bs → RDs C ρ H ds vs → vs = (bs.map mk).map V.str ∧ ∀ s ∈ bs, okS s = true
  | _, _, _, e, .nil => by cases e; exact ⟨rfl, fun _ h => by cases h⟩
  | d :: ds, v :: vs, bs, e, .cons h r => by
    cases h <;> first | cases e | skip
    rename_i b ok
    have e1 : (allS ds).map (b :: ·) = some bs := e
    obtain ⟨cs, e2, rfl⟩ := Option.map_eq_some_iff.mp e1
    obtain ⟨q1, q2⟩ := allS_V e2 r
    rw [q1]
    refine ⟨rfl, fun s hs => ?_⟩
    rcases List.mem_cons.mp hs with rfl | hs
    · exact ok
    · exact q2 s hs
theorem RDs.nil_ {C : Cn} {ρ : Rho} {H : Hp} {vs : List V} (r : RDs C ρ H [] vs) : vs = [] := by cases r; rfl
theorem bif_len (hK : X.K = C.K) (hc : X.calm = true) : CallR X (.builtin "len") (rBif C .len) := by
  intro pins s σ H vs us Q I r hq
  obtain ⟨ρ, h, ds, z, h', hr, rs, e, q⟩ := hq
  change lenB h ds = some (z, h') at e
  unfold lenB at e
  split at e
  · cases e
    obtain ⟨v, rfl, r1⟩ := rs.one
    obtain ⟨ok, rfl⟩ := r1.okS_
    refine call_len_str pins s σ H _ us Q I r ⟨_, rfl, mk_small ok, ?_⟩
    rw [mk_len]
    exact q.here hr (.int _)
  · obtain ⟨v, rfl, r1⟩ := rs.one
    split at e
    · rename_i xs hx
      cases e
      obtain ⟨a, ws, rfl, ha, ra⟩ := seq_at hr hx r1
      rw [← hK] at ha
      refine call_len_seq pins s σ H _ us Q I r ⟨a, ws, rfl, ha, ?_⟩
      rw [← ra.len]
      exact q.here hr (.int _)
    · cases e
  · cases e
theorem bif_abs : CallR X (.builtin "abs") (rBif C .abs) := by
  intro pins s σ H vs us Q I r hq
  obtain ⟨ρ, h, ds, z, h', hr, rs, e, q⟩ := hq
  change absB h ds = some (z, h') at e
  unfold absB at e
  split at e
  · cases e
    obtain ⟨v, rfl, r1⟩ := rs.one
    cases r1
    exact call_abs pins s σ H _ us Q I r ⟨_, rfl, q.here hr (.int _)⟩
  · cases e
theorem bif_min (hc : X.calm = true) : CallR X (.builtin "min") (rBif C .min) := by
  intro pins s σ H vs us Q I r hq
  obtain ⟨ρ, h, ds, z, h', hr, rs, e, q⟩ := hq
  change minB h ds = some (z, h') at e
  unfold minB at e
  split at e
  · cases e
    obtain ⟨v, w, rfl, r1, r2⟩ := rs.two
    cases r1; cases r2
    exact call_min2 hc pins s σ H _ us Q I r ⟨_, _, rfl, q.here hr (.int _)⟩
  · cases e
theorem bif_max (hc : X.calm = true) : CallR X (.builtin "max") (rBif C .max) := by
  intro pins s σ H vs us Q I r hq
  obtain ⟨ρ, h, ds, z, h', hr, rs, e, q⟩ := hq
  change maxB h ds = some (z, h') at e
  unfold maxB at e
  split at e
  · cases e
    obtain ⟨v, w, rfl, r1, r2⟩ := rs.two
    cases r1; cases r2
    exact call_max2 hc pins s σ H _ us Q I r ⟨_, _, rfl, q.here hr (.int _)⟩
  · cases e
theorem bif_any (hK : X.K = C.K) (hc : X.calm = true) : CallR X (.builtin "any") (rBif C .any) := by
  intro pins s σ H vs us Q I r hq
  obtain ⟨ρ, h, ds, z, h', hr, rs, e, q⟩ := hq
  change anyB h ds = some (z, h') at e
  unfold anyB at e
  split at e
  · obtain ⟨v, rfl, r1⟩ := rs.one
    split at e
    · rename_i xs hx
      split at e
      · rename_i bs e1
        cases e
        obtain ⟨a, ws, rfl, ha, ra⟩ := lst_at hr hx r1
        rw [allB_V e1 ra] at ha
        exact cr_any hc pins s σ H _ us Q I r ⟨a, bs, rfl, .inl (.inl ha), q.here hr (.bl _)⟩
      · cases e
    · cases e
  · cases e
theorem bif_all (hK : X.K = C.K) (hc : X.calm = true) : CallR X (.builtin "all") (rBif C .all) := by
  intro pins s σ H vs us Q I r hq
  obtain ⟨ρ, h, ds, z, h', hr, rs, e, q⟩ := hq
  change allBB h ds = some (z, h') at e
  unfold allBB at e
  split at e
  · obtain ⟨v, rfl, r1⟩ := rs.one
    split at e
    · rename_i xs hx
      split at e
      · rename_i bs e1
        cases e
        obtain ⟨a, ws, rfl, ha, ra⟩ := lst_at hr hx r1
        rw [allB_V e1 ra] at ha
        exact cr_all hc pins s σ H _ us Q I r ⟨a, bs, rfl, .inl (.inl ha), q.here hr (.bl _)⟩
      · cases e
    · cases e
  · cases e
theorem bif_list (hK : X.K = C.K) {fz : Bool} : CallR X (.type "list") (rBif C (.list fz)) := by
  intro pins s σ H vs us Q I r hq
  obtain ⟨ρ, h, ds, z, h', hr, rs, e, q⟩ := hq
  change listB fz h ds = some (z, h') at e
  unfold listB at e
  split at e
  · obtain ⟨v, rfl, r1⟩ := rs.one
    split at e
    · rename_i xs hx
      have e1 : newL fz xs h = (z, h') := Option.some.inj e
      obtain ⟨a, ws, rfl, ha, ra⟩ := seq_at hr hx r1
      rw [← hK] at ha
      have q1 : Ans C ρ H (newL fz xs h).2 (newL fz xs h).1 Q := by rw [e1]; exact q
      exact call_list_of pins s σ H _ us Q I r ⟨a, ws, rfl, ha, fun p hp => q1.newLA hr ra hp⟩
    · cases e
  · cases e
theorem bif_tuple (hK : X.K = C.K) : CallR X (.type "tuple") (rBif C .tuple) := by
  intro pins s σ H vs us Q I r hq
  obtain ⟨ρ, h, ds, z, h', hr, rs, e, q⟩ := hq
  change tupleB h ds = some (z, h') at e
  unfold tupleB at e
  split at e
  · cases e
    obtain ⟨v, rfl, r1⟩ := rs.one
    obtain ⟨a, ws, rfl, ha, ra⟩ := tup_at r1
    rw [← hK] at ha
    exact call_tuple_of pins s σ H _ us Q I r ⟨a, ws, rfl, .inr ⟨ha, q.here hr r1⟩⟩
  · obtain ⟨v, rfl, r1⟩ := rs.one
    split at e
    · rename_i xs hx
      cases e
      obtain ⟨a, ws, rfl, ha, ra⟩ := lst_at hr hx r1
      exact call_tuple_of pins s σ H _ us Q I r ⟨a, ws, rfl, .inl ⟨.inl (.inl ha), fun p hp => q.newT hr ra hp⟩⟩
    · cases e
  · cases e
theorem numI_str {i : Int} (h : 0 ≤ i) : ((toString i : String) : Str) = mk (numI i) := by
  obtain ⟨n, rfl⟩ := Int.eq_ofNat_of_zero_le h
  refine TL.ext_tl ?_
  show TL.tl (Str.ofString (toString ((n : Nat) : Int))) = TL.tl (mk (numI n))
  rw [TL.tl_num]
  show _ = (mk (numI n)).cps.toList
  rw [mk_tl]
  rfl
theorem numI_ok {i : Int} (h : 0 ≤ i ∧ i < 1000000000) : okS (numI i) = true := by
  obtain ⟨n, rfl⟩ := Int.eq_ofNat_of_zero_le h.1
  have hn : n < 10 ^ 9 := by omega
  refine okS_of (Nat.le_trans (TL.numL_len (by decide) hn) (by decide)) fun c hc => ?_
  have := TL.numL_digits n c hc
  omega
theorem log_small {i : Int} (h : 0 ≤ i ∧ i < 1000000000) : i.natAbs.log2 < 1920 := by
  have h1 : i.natAbs < 2 ^ 30 := by omega
  have : i.natAbs.log2 < 30 := by
    by_cases z : i.natAbs = 0
    · rw [z]; decide
    · exact (Nat.log2_lt z).mpr h1
  omega
theorem bif_int : CallR X (.type "int") (rBif C .intOf) := by
  intro pins s σ H vs us Q I r hq
  obtain ⟨ρ, h, ds, z, h', hr, rs, e, q⟩ := hq
  change intB h ds = some (z, h') at e
  unfold intB at e
  split at e
  · cases e
    obtain ⟨v, rfl, r1⟩ := rs.one
    cases r1
    exact call_int1 pins s σ H _ us Q I r (.inl ⟨_, rfl, q.here hr (.int _)⟩)
  · cases e
    obtain ⟨v, rfl, r1⟩ := rs.one
    cases r1
    exact call_int1 pins s σ H _ us Q I r (.inr ⟨_, rfl, q.here hr (.int _)⟩)
  · cases e
theorem bif_str : CallR X (.type "str") (rBif C .strOf) := by
  intro pins s σ H vs us Q I r hq
  obtain ⟨ρ, h, ds, z, h', hr, rs, e, q⟩ := hq
  change strB h ds = some (z, h') at e
  unfold strB at e
  split at e
  · split at e
    · rename_i hb
      cases e
      have hb := of_decide_eq_true hb
      obtain ⟨v, rfl, r1⟩ := rs.one
      cases r1
      refine call_str_int pins s σ H _ us Q I r ⟨_, rfl, log_small hb, ?_⟩
      rw [numI_str hb.1]
      exact q.here hr (.str _ (numI_ok hb))
    · cases e
  · cases e
end
end EV

set_option Elab.async false
set_option linter.all false
set_option maxRecDepth 100000
set_option maxHeartbeats 4000000
namespace EV
open PySem PySem.Spec PyProof.Rows L2
section
variable {X : Cx} {C : Cn}
def rBim (C : Cn) (m : Bm) : V → List V → Hp → VK → Prop := fun x vs H Q => ∃ ρ h dx ds z h', HR C ρ H h ∧ RD C ρ H dx x ∧ RDs C ρ H ds vs ∧ bimD m dx ds h = some (z, h') ∧ Ans C ρ H h' z Q
theorem bim_append : MtR X "list.append" (rBim C .append) := by
  intro pins s σ H x vs v us Q I rx rs hq
  obtain ⟨ρ, h, dx, ds, z, h', hr, r1, r2, e, q⟩ := hq
  change appendM h dx ds = some (z, h') at e
  unfold appendM at e
  split at e
  · split at e
    · rename_i ys hy
      split at e
      · rename_i hl
        cases e
        obtain ⟨w, rfl, rw1⟩ := r2.one
        cases r1 with
        | adr hn =>
          obtain ⟨u, h1, ws, rfl, h3⟩ := hr.obj _ _ _ hn hy
          refine mt_append pins s σ H _ _ v us Q I rx rs ⟨_, ws, w, rfl, rfl, h1, ?_, ?_⟩
          · rw [← h3.len]; exact okL_lt hl
          · have x := Ext.put (o := .lst (ws ++ [w])) hr hn
            exact q ρ _ _ x (hr.put hn ⟨_, rfl, h3.app (.cons rw1 .nil)⟩) .non
      · cases e
    · cases e
  · cases e
theorem seq_ix {n : Nat} {i : Int} {k : Nat} (h : ix n i = some k) : seqIndex? i n = some k ∧ k < n ∧ -(n : Int) ≤ i ∧ i < n := ixN_seq h
theorem bim_pop : MtR X "list.pop" (rBim C .pop) := by
  intro pins s σ H x vs v us Q I rx rs hq
  obtain ⟨ρ, h, dx, ds, z, h', hr, r1, r2, e, q⟩ := hq
  change popM h dx ds = some (z, h') at e
  unfold popM at e
  split at e
  · split at e
    · rename_i ys hy
      split at e
      · rename_i k hk
        split at e
        · rename_i y hyk
          cases e
          obtain ⟨w, rfl, rw1⟩ := r2.one
          cases rw1
          cases r1 with
          | @adr n a hn =>
            obtain ⟨u, h1, ws, rfl, h3⟩ := hr.obj _ _ _ hn hy
            obtain ⟨yv, e1, ry⟩ := h3.get hyk
            obtain ⟨s1, s2, s3, s4⟩ := seq_ix hk
            have hl := h3.len
            have hz : ws.length ≤ sizeLine := (I.lstM h1).1
            have h63 := line63
            refine mt_popAt pins s σ H _ _ v us Q I rx rs ⟨_, ws, _, k, yv, rfl, rfl, h1, by omega, by omega, by rw [← hl]; exact s1, e1, ?_⟩
            have x := Ext.put (o := .lst (ws.eraseIdx k)) hr hn
            exact q ρ _ _ x (hr.put hn ⟨_, rfl, h3.erase k⟩) (ry.mono x)
        · cases e
      · cases e
    · cases e
  · cases e
theorem bim_partition : MtR X "str.partition" (rBim C .partition) := by
  intro pins s σ H x vs v us Q I rx rs hq
  obtain ⟨ρ, h, dx, ds, z, h', hr, r1, r2, e, q⟩ := hq
  change partitionM h dx ds = some (z, h') at e
  unfold partitionM at e
  split at e
  · rename_i a y
    obtain ⟨w, rfl, rw1⟩ := r2.one
    obtain ⟨o1, rfl⟩ := r1.okS_
    obtain ⟨o2, rfl⟩ := rw1.okS_
    split at e
    · cases e
    · rename_i hy
      have hne : y ≠ [] := fun z => hy (by rw [z]; rfl)
      have hy0 : ((mk y).length == 0) = false := by
        rw [mk_len]
        cases y with
        | nil => exact absurd rfl hne
        | cons _ _ => rfl
      have tl : TL.tl (mk y) = y := mk_tl y
      have ta : TL.tl (mk a) = a := mk_tl a
      refine mt_partition pins s σ H _ _ v us Q I rx rs ⟨_, _, rfl, rfl, hy0, mk_small o1, fun p hp => ?_⟩
      rw [TL.partition_par _ _ (by rw [tl]; exact hne), tl, ta]
      have lens : ∀ (acc : S), ∀ (l r : S) (b : S), TL.par y acc b = some (l, r) → (∀ c ∈ l, c ∈ acc ∨ c ∈ b) ∧ (∀ c ∈ r, c ∈ b) ∧ l.length ≤ acc.length + b.length ∧ r.length ≤ b.length := fun acc l r b hb => by
        induction b generalizing acc with
        | nil => cases hb
        | cons c b ih =>
          have hb' : (if TL.pre y (c :: b) = true then some (acc, (c :: b).drop y.length) else TL.par y (acc ++ [c]) b) = some (l, r) := hb
          split at hb'
          · cases hb'
            refine ⟨fun c hc => .inl hc, fun c' hc' => List.mem_of_mem_drop hc', Nat.le_add_right _ _, ?_⟩
            rw [List.length_drop]
            omega
          · obtain ⟨q1, q2, q3, q4⟩ := ih _ hb'
            refine ⟨fun c' hc' => ?_, fun c' hc' => List.mem_cons_of_mem _ (q2 c' hc'), ?_, ?_⟩
            · rcases q1 c' hc' with z | z
              · rcases List.mem_append.mp z with z | z
                · exact .inl z
                · rw [List.mem_singleton] at z
                  subst z
                  exact .inr List.mem_cons_self
              · exact .inr (List.mem_cons_of_mem _ z)
            · simp only [List.length_append, List.length_cons, List.length_nil] at q3 ⊢
              omega
            · simp only [List.length_cons]
              omega
      split at e
      · rename_i l r hp2
        cases e
        rw [hp2]
        obtain ⟨q1, q2, q3, q4⟩ := lens [] l r a hp2
        have hl := okS_len o1
        have ol : okS l = true := okS_of (by simp at q3; omega) fun c hc => (q1 c hc).elim (fun z => nomatch z) (okS_lt o1 c)
        have or' : okS r = true := okS_of (by omega) fun c hc => okS_lt o1 c (q2 c hc)
        exact q.newT hr (.cons (.str l ol) (.cons (.str y o2) (.cons (.str r or') .nil))) hp
      · rename_i hp2
        cases e
        rw [hp2]
        have oe : okS [] = true := rfl
        exact q.newT hr (.cons (.str a o1) (.cons (.str [] oe) (.cons (.str [] oe) .nil))) hp
  · cases e
theorem spl_ok (y : S) : ∀ (b : S) (k : Nat) (acc : S) (p : S), p ∈ TL.spl y k acc b → (∀ c ∈ p, c ∈ acc ∨ c ∈ b) ∧ p.length ≤ acc.length + b.length
  | [], k, acc, p, h => by
    rw [TL.spl_nil] at h
    rw [List.mem_singleton] at h
    subst h
    exact ⟨fun c hc => .inl hc, Nat.le_add_right _ _⟩
  | c :: b, k + 1, acc, p, h => by
    have h' : p ∈ TL.spl y k acc b := h
    obtain ⟨q1, q2⟩ := spl_ok y b k acc p h'
    refine ⟨fun c' hc => (q1 c' hc).imp id (List.mem_cons_of_mem _), ?_⟩
    simp only [List.length_cons]
    omega
  | c :: b, 0, acc, p, h => by
    have h' : p ∈ (if TL.pre y (c :: b) = true then acc :: TL.spl y (y.length - 1) [] b else TL.spl y 0 (acc ++ [c]) b) := h
    split at h'
    · rcases List.mem_cons.mp h' with rfl | h'
      · exact ⟨fun c hc => .inl hc, Nat.le_add_right _ _⟩
      · obtain ⟨q1, q2⟩ := spl_ok y b _ [] p h'
        refine ⟨fun c' hc => (q1 c' hc).elim (fun z => nomatch z) fun z => .inr (List.mem_cons_of_mem _ z), ?_⟩
        simp only [List.length_cons, List.length_nil] at q2 ⊢
        omega
    · obtain ⟨q1, q2⟩ := spl_ok y b _ _ p h'
      refine ⟨fun c' hc => ?_, ?_⟩
      · rcases q1 c' hc with z | z
        · rcases List.mem_append.mp z with z | z
          · exact .inl z
          · rw [List.mem_singleton] at z
            subst z
            exact .inr List.mem_cons_self
        · exact .inr (List.mem_cons_of_mem _ z)
      · simp only [List.length_append, List.length_cons, List.length_nil] at q2 ⊢
        omega
theorem RDs.strs {C : Cn} {ρ : Rho} {H : Hp} : ∀ {ps : List S}, (∀ p ∈ ps, okS p = true) → RDs C ρ H (ps.map D.str) (ps.map fun p => V.str (mk p))
  | [], _ => .nil
  | p :: ps, h => .cons (.str p (h p List.mem_cons_self)) (RDs.strs fun q hq => h q (List.mem_cons_of_mem _ hq))
theorem bim_split : MtR X "str.split" (rBim C .split) := by
  intro pins s σ H x vs v us Q I rx rs hq
  obtain ⟨ρ, h, dx, ds, z, h', hr, r1, r2, e, q⟩ := hq
  change splitM h dx ds = some (z, h') at e
  unfold splitM at e
  split at e
  · rename_i a y
    obtain ⟨w, rfl, rw1⟩ := r2.one
    obtain ⟨o1, rfl⟩ := r1.okS_
    obtain ⟨o2, rfl⟩ := rw1.okS_
    split at e
    · cases e
    · rename_i hy
      cases e
      have hne : y ≠ [] := fun z => hy (by rw [z]; rfl)
      have hy0 : ((mk y).length == 0) = false := by
        rw [mk_len]
        cases y with
        | nil => exact absurd rfl hne
        | cons _ _ => rfl
      have tl : TL.tl (mk y) = y := mk_tl y
      have ta : TL.tl (mk a) = a := mk_tl a
      have hl := okS_len o1
      have hk : ¬ Builtin.Str.strKind (mk a) < Builtin.Str.strKind (mk y) := TL.kind_ok (by
        show (y.toArray).all (· < 256) = true
        rw [List.all_toArray]
        refine List.all_eq_true.mpr fun c hc => decide_eq_true ?_
        have := okS_lt o2 c hc
        omega)
      have es := TL.split_spl (mk a) (mk y) (by rw [tl]; exact hne) hk
      rw [tl, ta] at es
      have e2 : Txt.split (mk a) (mk y) = (TL.spl y 0 [] a).map mk := by
        refine TL.map_tl_inj ?_
        rw [es, List.map_map]
        have : (TL.tl ∘ mk) = id := funext fun z => mk_tl z
        rw [this, List.map_id]
      refine mt_split pins s σ H _ _ v us Q I rx rs ⟨_, _, rfl, rfl, hy0, by rw [mk_len]; exact sl1 (by omega), fun p hp => ?_⟩
      rw [e2, List.map_map]
      exact q.newL hr (RDs.strs fun p hp => by
        obtain ⟨q1, q2⟩ := spl_ok y a 0 [] p hp
        exact okS_of (by simp at q2; omega) fun c hc => (q1 c hc).elim (fun z => nomatch z) (okS_lt o1 c)) hp
  · cases e
theorem starts_pre (a y : S) : Txt.startswith (mk a) (mk y) = TL.pre y a := by
  have h1 : Builtin.Str.subAt (mk a) (mk y) 0 = TL.pre y a := by
    unfold PySem.Builtin.Str.subAt TL.pre mk
    simp only [Nat.zero_add, Str.length, List.size_toArray, List.extract_toArray, List.extract_eq_take_drop, List.drop_zero, Nat.sub_zero]
    by_cases q : List.take y.length a = y
    · rw [q]; simp
    · have q2 : (List.take y.length a).toArray ≠ y.toArray := fun z => q (by simpa using z)
      rw [beq_eq_false_iff_ne.mpr q, beq_eq_false_iff_ne.mpr q2]
  show (decide (0 + (mk y).length ≤ (mk a).length) && Builtin.Str.subAt (mk a) (mk y) 0) = _
  rw [h1, mk_len, mk_len]
  cases hp : TL.pre y a with
  | false => rw [Bool.and_false]
  | true =>
    unfold TL.pre at hp
    have hl := congrArg List.length (beq_iff_eq.mp hp)
    rw [List.length_take] at hl
    rw [decide_eq_true (by omega)]
    rfl
theorem join_sum (y : S) : ∀ ss : List S, (ss.map List.length).sum ≤ (TL.joinL y ss).length
  | [] => Nat.le_refl _
  | [p] => by simp [TL.joinL]
  | p :: q :: r => by
    have ih := join_sum y (q :: r)
    show p.length + ((q :: r).map List.length).sum ≤ (p ++ (y ++ TL.joinL y (q :: r))).length
    rw [List.length_append, List.length_append]
    omega
theorem bim_startswith : MtR X "str.startswith" (rBim C .startswith) := by
  intro pins s σ H x vs v us Q I rx rs hq
  obtain ⟨ρ, h, dx, ds, z, h', hr, r1, r2, e, q⟩ := hq
  change startswithM h dx ds = some (z, h') at e
  unfold startswithM at e
  split at e
  · rename_i a y
    cases e
    obtain ⟨w, rfl, rw1⟩ := r2.one
    obtain ⟨o1, rfl⟩ := r1.okS_
    obtain ⟨o2, rfl⟩ := rw1.okS_
    refine mt_startswith pins s σ H _ _ v us Q I rx rs ⟨_, _, rfl, rfl, ?_⟩
    have e2 : Txt.startswith (mk a) (mk y) = TL.pre y a := starts_pre a y
    rw [e2]
    exact q.here hr (.bl _)
  · cases e
theorem bim_join (hK : X.K = C.K) : MtR X "str.join" (rBim C .join) := by
  intro pins s σ H x vs v us Q I rx rs hq
  obtain ⟨ρ, h, dx, ds, z, h', hr, r1, r2, e, q⟩ := hq
  change joinM h dx ds = some (z, h') at e
  unfold joinM at e
  split at e
  · rename_i y d
    obtain ⟨w, rfl, rw1⟩ := r2.one
    obtain ⟨o1, rfl⟩ := r1.okS_
    split at e
    · rename_i xs hx
      split at e
      · rename_i ss hs
        split at e
        · rename_i hc
          cases e
          simp only [Bool.and_eq_true, decide_eq_true_eq] at hc
          obtain ⟨⟨ok, hl1⟩, hl2⟩ := hc
          obtain ⟨a, ws, rfl, ha, ra⟩ := lst_at hr hx rw1
          obtain ⟨e3, e4⟩ := allS_V hs ra
          rw [e3] at ha
          refine mt_join pins s σ H _ _ v us Q I rx rs ⟨_, a, ss.map mk, rfl, rfl, .inl (.inl (.inl ha)), ?_, ?_⟩
          · have h1 := join_sum y ss
            have h2 := okS_len ok
            have h3 : ss.length * y.length ≤ 1000 * 1000 := Nat.mul_le_mul hl1 hl2
            rw [List.map_map, List.length_map, mk_len]
            have h4 : (Str.length ∘ mk) = List.length := funext fun z => mk_len z
            have h5 : ((fun z : Str => z.length) ∘ mk) = List.length := funext fun z => mk_len z
            rw [h5]
            omega
          · rw [TL.join_eq]
            have e5 : Str.join (mk y) (ss.map mk) = mk (TL.joinL y ss) := by
              refine TL.ext_tl ?_
              rw [TL.tl_join, List.map_map]
              have : (TL.tl ∘ mk) = id := funext fun z => mk_tl z
              rw [this, List.map_id]
              show TL.joinL (TL.tl (mk y)) ss = TL.tl (mk (TL.joinL y ss))
              have t1 : TL.tl (mk y) = y := mk_tl y
              have t2 : TL.tl (mk (TL.joinL y ss)) = TL.joinL y ss := mk_tl _
              rw [t1, t2]
            rw [e5]
            exact q.here hr (.str _ ok)
        · cases e
      · cases e
    · cases e
  · cases e
end
end EV

set_option Elab.async false
set_option linter.all false
set_option maxRecDepth 100000
set_option maxHeartbeats 4000000
namespace EV
open PySem PySem.Spec PyProof.Rows L2

/-! ### what the model's own looks at an expression say -/
def notStar : Expr → Bool
  | .Starred .. => false
  | _ => true
theorem star_ok {e : Expr} {es : List Expr} {env : Env} (h : notStar e = true) : starEach (e :: es) env = (false, eval e env) :: starEach es env := by
  cases e <;> first | rfl | cases h
theorem star_all {env : Env} : ∀ {es : List Expr}, es.all notStar = true → (starEach es env).all (fun x => !x.1) = true
  | [], _ => rfl
  | e :: es, h => by
    rw [List.all_cons, Bool.and_eq_true] at h
    rw [star_ok h.1, List.all_cons, star_all h.2]
    rfl
theorem back_map {pos : Pos} {l : List (Bool × Sem Value)} (f : Bool → Bool) : (backTo pos l).map (fun x => f x.1) = l.map fun x => f x.1 := by
  induction l with
  | nil => rfl
  | cons a r ih => simp only [backTo, List.map_cons, List.map_map] at ih ⊢; simp
theorem back_any {pos : Pos} {env : Env} {es : List Expr} (h : es.all notStar = true) : (backTo pos (starEach es env)).any (·.1) = false := by
  have h1 := star_all (env := env) h
  unfold backTo
  rw [List.any_map]
  rw [List.all_eq_true] at h1
  rw [Bool.eq_false_iff]
  intro z
  rw [List.any_eq_true] at z
  obtain ⟨x, hx, hz⟩ := z
  have := h1 x hx
  simp at hz this
  rw [hz] at this
  cases this
theorem back_all {pos : Pos} {env : Env} {es : List Expr} (h : es.all notStar = true) : (backTo pos (starEach es env)).all (fun x => !x.1) = true := by
  have h1 := back_any (pos := pos) (env := env) h
  rw [List.all_eq_true]
  intro x hx
  rw [Bool.eq_false_iff] at h1
  cases q : x.1 with
  | false => rfl
  | true => exact absurd (List.any_eq_true.mpr ⟨x, hx, q⟩) h1
def plainBase : Expr → Bool
  | .Call (.Name ..) [] [] _ => false
  | _ => true
theorem base_ok {e : Expr} {f : Str} {env : Env} (h : plainBase e = true) : attributeBase e f env (eval e env) = eval e env := by
  unfold attributeBase
  split
  · cases h
  · rfl
def notComp : Expr → Bool
  | .ListComp .. | .SetComp .. | .DictComp .. => false
  | _ => true
theorem swap_ok {e : Expr} {t : Option Expr} {l : Nat} {env : Env} (h : notComp e = true) : swapsWith e t l env = pure false := by
  cases e <;> first | rfl | cases h
def plainTest : Expr → Bool
  | .UnaryOp .Not .. | .BoolOp .. | .IfExp .. | .Compare .. => false
  | _ => true
theorem test_ok {e : Expr} {env : Env} (h : plainTest e = true) : ∀ whole, isTrue e env whole = (do let v ← whole; standAt e.pos; holding [v] (truthy v)) := by
  intro whole
  cases e <;> first | rfl | cases h | skip
  rename_i op x pos
  cases op <;> first | rfl | cases h
def plainIx : Expr → Bool
  | .Slice .. => false
  | _ => true
theorem ix_ok {e : Expr} (h : plainIx e = true) : PlainIx e := by
  intro o i
  cases e <;> first | rfl | cases h
def notSet : Expr → Bool
  | .Set .. => false
  | _ => true
theorem fold_ok {e : Expr} (h : notSet e = true) {env : Env} : ∀ x, foldedSetIterable e env x = pure x := by
  intro x
  cases e <;> first | rfl | cases h
theorem mark_ok {e : Expr} {op : CmpOp} (h : notSet e = true) : behindInMarks op e = false := by
  cases e <;> first | rfl | cases h
theorem last_ok {op op' : CmpOp} {b c : Expr} (h : notSet c = true) : lastMarks [op, op'] [b, c] = false := by
  show lastMarks [op'] [c] = false
  exact mark_ok h
theorem each_ok {e : Expr} {env : Env} (h : notStar e = true) : (assignEach [e] env).map (·.2) = [assign e env] := by
  cases e <;> first | rfl | cases h
def notTup : Expr → Bool
  | .Tuple .. => false
  | _ => true
theorem stores_ok {x : Str} {p : Pos} {e : Expr} {env : Env} : swappedStores [.Name x p] e env = pure none := rfl
theorem stores_tup {ts : List Expr} {k : Nat} {p : Pos} {e : Expr} {env : Env} (h : notTup e = true) : swappedStores [.Tuple ts k p] e env = pure none := by
  cases e <;> first | rfl | cases h

end EV
namespace L2
open PySem PySem.Spec PyProof.Rows
theorem PE.imp {X : Cx} {e : Expr} {t t' : TE} (h : PE X e t') (hi : ∀ σ H Q, t σ H Q → t' σ H Q) : PE X e t := ⟨fun pins s σ H Q I q => h.run pins s σ H Q I (hi σ H Q q)⟩
theorem PT.imp {X : Cx} {e : Expr} {t t' : TT} (h : PT X e t') (hi : ∀ σ H Q, t σ H Q → t' σ H Q) : PT X e t := ⟨fun pins s σ H Q I q => h.run pins s σ H Q I (hi σ H Q q)⟩
theorem PW.imp {X : Cx} {e : Expr} {t t' : TT} (h : PW X e t') (hi : ∀ σ H Q, t σ H Q → t' σ H Q) : PW X e t := ⟨fun wh pins s σ H Q I q => h.run wh pins s σ H Q I (hi σ H Q q)⟩
theorem PA.imp {X : Cx} {es : List Expr} {t t' : TA} (h : PA X es t') (hi : ∀ σ H Q, t σ H Q → t' σ H Q) : PA X es t := ⟨fun pos pins s σ H Q I q => h.run pos pins s σ H Q I (hi σ H Q q)⟩
theorem PS.imp {X : Cx} {e : Stmt} {t t' : TS} (h : PS X e t') (hi : ∀ D σ H, t D σ H → t' D σ H) : PS X e t := ⟨fun pins s σ H D I q => h.run pins s σ H D I (hi D σ H q)⟩
theorem PSs.imp {X : Cx} {e : List Stmt} {t t' : TS} (h : PSs X e t') (hi : ∀ D σ H, t D σ H → t' D σ H) : PSs X e t := ⟨fun pins s σ H D I q => h.run pins s σ H D I (hi D σ H q)⟩
theorem PI.imp {X : Cx} {tg e : Expr} {t t' : TI} (h : PI X tg e t') (hi : ∀ σ H R, t σ H R → t' σ H R) : PI X tg e t := ⟨fun pins s σ H R I q => h.run pins s σ H R I (hi σ H R q)⟩
theorem PO.imp {X : Cx} {e : Option Expr} {t t' : TO} (h : PO X e t') (hi : ∀ σ H Q, t σ H Q → t' σ H Q) : PO X e t := ⟨fun pins s σ H Q I q => h.run pins s σ H Q I (hi σ H Q q)⟩

end L2
namespace EV
open PySem PySem.Spec PyProof.Rows L2
/-! ### readings by the evaluator -/
def tV (C : Cn) (v : En → MH → Option (D × MH)) : TE := fun σ H Q => ∃ ρ en h d h', SR C ρ H σ en ∧ HR C ρ H h ∧ v en h = some (d, h') ∧ Ans C ρ H h' d Q
def AnsL (C : Cn) (ρ : Rho) (H : Hp) (h' : MH) (ds : List D) (Q : List V → Hp → Prop) : Prop := ∀ ρ' H' vs, Ext ρ H ρ' H' → HR C ρ' H' h' → RDs C ρ' H' ds vs → Q vs H'
def tL (C : Cn) (ms : List Sm) : TA := fun σ H Q => ∃ ρ en h ds h', SR C ρ H σ en ∧ HR C ρ H h ∧ evs ms en h = some (ds, h') ∧ AnsL C ρ H h' ds Q
def AnsB (C : Cn) (ρ : Rho) (H : Hp) (h' : MH) (P : Hp → Prop) : Prop := ∀ ρ' H', Ext ρ H ρ' H' → HR C ρ' H' h' → P H'
def tB_ (C : Cn) (f : En → MH → Option (Bool × MH)) : TT := fun σ H Q => ∃ ρ en h b h', SR C ρ H σ en ∧ HR C ρ H h ∧ f en h = some (b, h') ∧ AnsB C ρ H h' (Q b)
def tO_ (C : Cn) (m : Option Sm) : TO := fun σ H Q => ∃ ρ en h o h', SR C ρ H σ en ∧ HR C ρ H h ∧ part m en h = some (o, h') ∧ AnsB C ρ H h' (Q o)

/-- names: the constants', the called defs', the fields' -/
structure Tb where
  gN : Nat → Str
  gD : Nat → Bool
  uN : Nat → Str
  fN : Nat → Str
  cN : Nat → Str
  cD : Nat → Bool
  kN : Nat → Str
def visB (sc : Scope) (x : Str) : Bool := match sc.names.lookup x with
  | some .local => true
  | some .cell => true
  | some .free => true
  | _ => false
def locB (sc : Scope) (x : Str) : Bool := match sc.names.lookup x with
  | some .local => true
  | some .cell => true
  | _ => false
def okN (x : Str) : Bool := !(x == ("__debug__" : Str)) && !(x == ("__classdict__" : Str)) && !(x == ("__name__" : Str))
def glB (sc : Scope) (x : Str) : Bool := decide (sc.names.lookup x = some .globalImplicit) && okN x
theorem vis_of {sc : Scope} {x : Str} (h : visB sc x = true) : Vis sc x := by
  unfold visB at h
  split at h
  · rename_i q; exact .inl q
  · rename_i q; exact .inr (.inl q)
  · rename_i q; exact .inr (.inr q)
  · cases h
theorem loc_of {sc : Scope} {x : Str} (h : locB sc x = true) : Loc sc x := by
  unfold locB at h
  split at h
  · rename_i q; exact .inl q
  · rename_i q; exact .inr q
  · cases h
theorem okN_of {x : Str} (h : okN x = true) : (x == ("__debug__" : Str)) = false ∧ (x == ("__classdict__" : Str)) = false ∧ x ≠ "__name__" := by
  unfold okN at h
  simp only [Bool.and_eq_true, Bool.not_eq_true'] at h
  exact ⟨h.1.1, h.1.2, fun z => by rw [z] at h; simp at h⟩
/-- the built-ins' names -/
def biN : Bi → Str × Bool × String
  | .len => ("len", false, "len")
  | .abs => ("abs", false, "abs")
  | .min => ("min", false, "min")
  | .max => ("max", false, "max")
  | .any => ("any", false, "any")
  | .all => ("all", false, "all")
  | .list _ => ("list", true, "list")
  | .tuple => ("tuple", true, "tuple")
  | .strOf => ("str", true, "str")
  | .intOf => ("int", true, "int")
  | .sorted _ => ("sorted", false, "sorted")
  | .repr => ("repr", false, "repr")
  | .sum => ("sum", false, "sum")
def bmN : Bm → Str
  | .append => "append"
  | .pop => "pop"
  | .insert => "insert"
  | .extend => "extend"
  | .index => "index"
  | .partition => "partition"
  | .split => "split"
  | .startswith => "startswith"
  | .join => "join"
  | .upper => "upper"
  | .isdigit => "isdigit"
  | .replace => "replace"
  | .dget => "get"
  | .dgetD => "get"
def frees : List Str := ["len", "abs", "min", "max", "any", "all", "list", "tuple", "str", "int", "bool", "dict", "sorted", "repr", "sum", "range", "enumerate", "zip", "isinstance"]
def rCal (C : Cn) (sp : Spec) : Sp := fun vs H Q _ => ∃ ρ h ds z h', HR C ρ H h ∧ RDs C ρ H ds vs ∧ sp ds h = some (z, h') ∧ Ans C ρ H h' z Q
/-- room, and no repr under way -/
structure Rm (k : Nat) (A : Around) : Prop where
  room : Room k A
  gd : A.guards = some []
/-- some more room -/
structure Rs (k : Nat) (A : Around) : Prop where
  hd : A.handled = none
  dp : A.depth + 3 * k + 7 < recursionLimit
  un : A.units + 16 * k + 205 < cLine
  gd : A.guards = some []
theorem Rs.rm {k : Nat} {A : Around} (r : Rs k A) : Rm k A := ⟨⟨r.hd, by have := r.dp; omega, by have := r.un; omega⟩, r.gd⟩
theorem Rs.make {k : Nat} {A : Around} (r : Rs k A) (C : Addr) (us : List Value) : Rm k (A.under (.builtin "type.__call__" ⟨.ref C :: us, []⟩)) :=
  ⟨⟨r.hd, by have := r.dp; rw [make_depth]; omega, by have := r.un; rw [make_units]; omega⟩, r.gd⟩
theorem Rs.in1 {k : Nat} {A : Around} (r : Rs k A) : Rm k A.in1 := ⟨⟨r.hd, by have := r.dp; show A.depth + 3 * k + 5 < _; omega, by have := r.un; show A.units + 1 + 16 * k + 200 < _; omega⟩, r.gd⟩
theorem Rs.in2 {k : Nat} {A : Around} (r : Rs k A) : Rm k A.in1.in1 := ⟨⟨r.hd, by have := r.dp; show A.depth + 3 * k + 5 < _; omega, by have := r.un; show A.units + 1 + 1 + 16 * k + 200 < _; omega⟩, r.gd⟩
/-- a promise by positional values -/
def FnG (P : Program) (w : World) (K : PySem.W.Frag) (mg : Str → Option Value) (base : Heap) (k : Nat) (f : Addr) (sp : Sp) : Prop :=
  ∀ (A : Around) (outer : List Env) (s : Shared) (H : Hp) (us : List Value) (vs : List V) (Q : VK) (E : XK), Rm k A → Env0 P w K mg base A outer s H → Vals vs us → sp vs H Q E →
    codeAny (model P w) A (.call (.ref f) ⟨us, []⟩) (CR CX0 outer P w H s Q E) s
/-- the same by positional values and one keyword's, the last of vs -/
def FnGK (P : Program) (w : World) (K : PySem.W.Frag) (mg : Str → Option Value) (base : Heap) (k : Nat) (f : Addr) (kn : Str) (sp : Sp) : Prop :=
  ∀ (A : Around) (outer : List Env) (s : Shared) (H : Hp) (us : List Value) (vs : List V) (u : Value) (v : V) (Q : VK) (E : XK), Rm k A → Env0 P w K mg base A outer s H → Vals vs us → RelV v u → sp (vs ++ [v]) H Q E →
    codeAny (model P w) A (.call (.ref f) ⟨us, [(kn, u)]⟩) (CR CX0 outer P w H s Q E) s
/-- the types of data that are no objects of own classes -/
def tyAll : List String := ["NoneType", "bool", "int", "str", "list", "tuple", "dict"]
/-- what isinstance asks of an own class -/
structure IsC (K : PySem.W.Frag) (C : Addr) : Prop where
  cl : Cls K C
  ha : PySem.W.findIn K (.ref C) "__class__" = some (some (.builtin "object.__class__"))
  hn : PySem.W.specialIn K (.builtin "object.__class__") "__get__" = some (some (.builtin "getset_descriptor.__get__"))
  htk : PySem.W.takesIn K (.builtin "object.__class__") = some true
  hm : PySem.W.mroIn K C (.type "object") = some true
  neg : ∀ t ∈ tyAll, PySem.W.kitOne K (.type t) (.ref C) = some false
/-- what a body leans on -/
structure Gd (X : Cx) (C : Cn) (T : Tb) (O : Orc) (k : Nat) : Prop where
  K : X.K = C.K
  w : X.w = C.w
  fN : C.fN = T.fN
  calm : X.calm = true
  xe : X.xe = fun _ _ => False
  rs : Rs k X.A
  free : ∀ x ∈ frees, X.mg x = none
  glb : ∀ g, T.gD g = true → ∃ u v, X.mg (T.gN g) = some u ∧ RelV v u ∧ ∀ ρ H, RD C ρ H (O.glb g) v
  okF : ∀ c f, O.okF c f = true → Cls X.K (C.cA c) ∧ NoAttr X.K (C.cA c) (C.fN f)
  inj : ∀ c f g, O.okF c f = true → O.okF c g = true → C.fN f = C.fN g → f = g
  isF : ∀ f, O.isF f = true → X.mg (T.uN f) = some (.ref (C.fA f)) ∧ PySem.W.keepIn X.K (.ref (C.fA f)) = true
  okM : ∀ c f, O.okM c f = true → Cls X.K (C.cA c) ∧ Meth X.K (C.cA c) (T.uN f) (C.fA f) ∧ ∀ g, O.okF c g = true → C.fN g ≠ T.uN f
  cls : ∀ c, T.cD c = true → X.mg (T.cN c) = some (.ref (C.cA c))
  okX : ∀ c f, (O.okX 0 c f = true → Mk X.K (C.cA c) (C.fA f)) ∧ (O.okX 1 c f = true → Cls X.K (C.cA c) ∧ ∃ p, PropOf X.K (C.cA c) (T.uN f) p (C.fA f)) ∧
    (O.okX 2 c f = true → ∃ mc p, ClX.CRead X.K (C.cA c) mc ∧ ClX.CMet X.K (C.cA c) mc (T.uN f) p (C.fA f)) ∧ (O.okX 3 c f = true → PySem.W.findIn X.K (.ref (C.cA c)) "__str__" = some (some (.ref (C.fA f))) ∧ PySem.W.isFn X.K (.ref (C.fA f)) = true)
  okY : ∀ c f, (O.okX 4 c f = true → PySem.W.findIn X.K (.ref (C.cA c)) "__len__" = some (some (.ref (C.fA f))) ∧ PySem.W.isFn X.K (.ref (C.fA f)) = true) ∧ (O.okX 5 c f = true → PySem.W.findIn X.K (.ref (C.cA c)) "__eq__" = some (some (.ref (C.fA f))) ∧ PySem.W.isFn X.K (.ref (C.fA f)) = true)
  okZ : ∀ c f, O.okX 6 c f = true → IsC X.K (C.cA c)
  call : ∀ f, FnG X.prog X.w X.K X.mg X.base k (C.fA f) (rCal C (O.call f))
  callK : ∀ f, FnGK X.prog X.w X.K X.mg X.base k (C.fA f) (T.kN f) (rCal C (O.callK f))
theorem Gd.rm {X : Cx} {C : Cn} {T : Tb} {O : Orc} {k : Nat} (G : Gd X C T O k) : Rm k X.A := G.rs.rm
theorem Gd.hu {X : Cx} {C : Cn} {T : Tb} {O : Orc} {k : Nat} (G : Gd X C T O k) : X.A.units + 65 < cLine := by have := G.rm.room.un; omega
end EV

set_option Elab.async false
set_option linter.all false
set_option maxRecDepth 100000
set_option maxHeartbeats 4000000
namespace EV
open PySem PySem.Spec PyProof.Rows L2
section
variable {X : Cx} {C : Cn} {T : Tb} {O : Orc} {k : Nat} {pos : Pos} {a b : Expr} {sa sb sc : Sm}
theorem s_var {i : Nat} {x : Str} (h1 : X.N[i]? = some x) (h2 : visB X.env.scope x = true) (h3 : okN x = true) : PE X (.Name x pos) (tV C (sem O (.var i)).v) :=
  (pe_var h1 (vis_of h2) (okN_of h3).1 (okN_of h3).2.1).imp fun σ H Q ⟨ρ, en, h, d, h', sr, hr, e, q⟩ => by
    change (match en[i]? with | some (some d) => some (d, h) | _ => none) = some (d, h') at e
    split at e
    · rename_i d0 hd
      cases e
      obtain ⟨v, hv, rv⟩ := sr.get i _ hd
      exact ⟨v, hv, q.here hr rv⟩
    · cases e
theorem s_cst {d : D} {v : V} {e : Expr} (hp : PE X e (tC v)) (hr : ∀ ρ H, RD C ρ H d v) : PE X e (tV C (sem O (.cst d)).v) :=
  hp.imp fun σ H Q ⟨ρ, en, h, d0, h', sr, hh, e, q⟩ => by
    change some (d, h) = some (d0, h') at e
    cases e
    exact q.here hh (hr _ _)
theorem s_glb {g : Nat} {x : Str} (G : Gd X C T O k) (hx : T.gN g = x) (hg : glB X.env.scope x = true) (hn : T.gD g = true) : PE X (.Name x pos) (tV C (sem O (.glb g)).v) := by
  obtain ⟨u, v, h1, h2, h3⟩ := G.glb g hn
  rw [hx] at h1
  unfold glB at hg
  rw [Bool.and_eq_true] at hg
  have hg1 : X.env.scope.names.lookup x = some .globalImplicit := of_decide_eq_true hg.1
  exact (pe_glob (v := v) (u := u) hg1 h1 h2 (okN_of hg.2).1).imp fun σ H Q ⟨ρ, en, h, d0, h', sr, hh, e, q⟩ => by
    change some (O.glb g, h) = some (d0, h') at e
    cases e
    exact q.here hh (h3 _ _)
theorem s_nil : PA X [] (tL C []) := pa_nil.imp fun σ H Q ⟨ρ, en, h, ds, h', sr, hr, e, q⟩ => by
  cases e
  exact q ρ H [] (Ext.refl _ _) hr .nil
theorem s_cons {e : Expr} {es : List Expr} {m : Sm} {ms : List Sm} (he : PE X e (tV C m.v)) (hs : PA X es (tL C ms)) (hn : notStar e = true) : PA X (e :: es) (tL C (m :: ms)) :=
  (pa_cons he hs (star_ok hn)).imp fun σ H Q ⟨ρ, en, h, ds, h', sr, hr, e, q⟩ => by
    unfold evs at e
    split at e
    · rename_i x h1 hx
      split at e
      · rename_i xs h2 hxs
        cases e
        exact ⟨ρ, en, h, x, h1, sr, hr, hx, fun ρ1 H1 v x1 hr1 rv => ⟨ρ1, en, h1, xs, _, sr.mono x1, hr1, hxs, fun ρ2 H2 vs x2 hr2 rvs => q ρ2 H2 _ (x1.trans x2) hr2 (.cons (rv.mono x2) rvs)⟩⟩
      · cases e
    · cases e
theorem s_tup {es : List Expr} {ms : List ME} {n : Nat} (hs : PA X es (tL C (sems O ms))) : PE X (.Tuple es n pos) (tV C (sem O (.tup ms)).v) :=
  (pe_tup hs).imp fun σ H Q ⟨ρ, en, h, d, h', sr, hr, e, q⟩ => by
    change (match evs (sems O ms) en h with
      | some (ds, h1) => if okL ds.length then some (D.tup ds, h1) else none
      | none => none) = some (d, h') at e
    split at e
    · rename_i ds h1 hds
      split at e
      · rename_i hl
        cases e
        refine ⟨ρ, en, h, ds, _, sr, hr, hds, fun ρ1 H1 vs x1 hr1 rvs => ⟨by rw [← rvs.len]; exact okL_ hl, fun p hp => ?_⟩⟩
        have q1 : Ans C ρ1 H1 h' (.tup ds) Q := fun ρ2 H2 v x2 hr2 rv => q ρ2 H2 v (x1.trans x2) hr2 rv
        exact q1.newT hr1 rvs hp
      · cases e
    · cases e
theorem s_lst {es : List Expr} {ms : List ME} {fz : Bool} (hs : PA X es (tL C (sems O ms))) : PE X (.List es pos) (tV C (sem O (.lst fz ms)).v) :=
  (pe_lst hs).imp fun σ H Q ⟨ρ, en, h, d, h', sr, hr, e, q⟩ => by
    change (match evs (sems O ms) en h with
      | some (ds, h1) => if okL ds.length then some (newL fz ds h1) else none
      | none => none) = some (d, h') at e
    split at e
    · rename_i ds h1 hds
      split at e
      · rename_i hl
        have e2 : newL fz ds h1 = (d, h') := Option.some.inj e
        refine ⟨ρ, en, h, ds, _, sr, hr, hds, fun ρ1 H1 vs x1 hr1 rvs => ⟨by rw [← rvs.len]; exact okL_ hl, fun p hp => ?_⟩⟩
        have q1 : Ans C ρ1 H1 (newL fz ds h1).2 (newL fz ds h1).1 Q := by
          rw [e2]
          exact fun ρ2 H2 v x2 hr2 rv => q ρ2 H2 v (x1.trans x2) hr2 rv
        exact q1.newLA hr1 rvs hp
      · cases e
    · cases e
/-- two values, then an operation -/
theorem two_ {f : D → D → MH → Option D} {r : R2} {σ : L2.St} {H : Hp} {Q : VK}
    (hr : ∀ x y H Q, (∃ ρ h dx dy z, HR C ρ H h ∧ RD C ρ H dx x ∧ RD C ρ H dy y ∧ f dx dy h = some z ∧ Ans C ρ H h z Q) → r x y H Q) (hq : tV C (two sa sb f) σ H Q) : tOp r (tV C sa.v) (tV C sb.v) σ H Q := by
  obtain ⟨ρ, en, h, d, h', sr, hh, e, q⟩ := hq
  unfold two at e
  split at e
  · rename_i x h1 hx
    split at e
    · rename_i y h2 hy
      obtain ⟨z, hz, e2⟩ := Option.map_eq_some_iff.mp e
      cases e2
      exact ⟨ρ, en, h, x, h1, sr, hh, hx, fun ρ1 H1 v x1 hr1 rv => ⟨ρ1, en, h1, y, _, sr.mono x1, hr1, hy, fun ρ2 H2 w x2 hr2 rw2 => hr _ _ _ _ ⟨ρ2, _, x, y, _, hr2, rv.mono x2, rw2, hz, fun ρ3 H3 u x3 hr3 ru => q ρ3 H3 u ((x1.trans x2).trans x3) hr3 ru⟩⟩⟩
    · cases e
  · cases e
theorem s_bin (G : Gd X C T O k) {op : Operator} (ha : PE X a (tV C sa.v)) (hb : PE X b (tV C sb.v)) : PE X (.BinOp a op b pos) (tV C (two sa sb (binD op))) :=
  (pe_op (op_bin G.K) ha hb).imp fun σ H Q hq => two_ (f := binD op) (fun _ _ _ _ z => z) hq
theorem cmp_ {op : CmpOp} : ∀ x y H Q, (∃ ρ h dx dy z, HR C ρ H h ∧ RD C ρ H dx x ∧ RD C ρ H dy y ∧ cmpB op dx dy h = some z ∧ Ans C ρ H h z Q) → rCmp C op x y H Q :=
  fun x y H Q ⟨ρ, h, dx, dy, z, h1, h2, h3, h4, h5⟩ => by
    obtain ⟨b, e1, rfl⟩ := Option.map_eq_some_iff.mp h4
    exact ⟨ρ, h, dx, dy, b, h1, h2, h3, e1, h5⟩
theorem s_cmp (G : Gd X C T O k) {op : CmpOp} (ha : PE X a (tV C sa.v)) (hb : PE X b (tV C sb.v)) (hn : notSet b = true) : PE X (.Compare a [op] [b] pos) (tV C (two sa sb (cmpB op))) :=
  (pe_cmpR (op_cmp G.K G.w G.hu) ha hb (mark_ok hn)).imp fun σ H Q hq => two_ cmp_ hq
theorem s_cmpT (G : Gd X C T O k) {op : CmpOp} (ha : PE X a (tV C sa.v)) (hb : PE X b (tV C sb.v)) (hn : notSet b = true) : PT X (.Compare a [op] [b] pos) (tB_ C (truS (two sa sb (cmpB op)))) :=
  (pt_cmpR (op_cmp G.K G.w G.hu) ha hb (mark_ok hn)).imp fun σ H Q ⟨ρ, en, h, b0, h', sr, hr, e, q⟩ => by
    unfold truS at e
    split at e
    · rename_i x h1 hx
      obtain ⟨b1, hb1, e2⟩ := Option.map_eq_some_iff.mp e
      cases e2
      refine two_ cmp_ (Q := fun x H' => ∃ k, x = V.bl k ∧ Q k H') ⟨ρ, en, h, x, _, sr, hr, hx, fun ρ1 H1 v x1 hr1 rv => ?_⟩
      have isb : ∃ c, x = .bl c := by
        unfold two at hx
        split at hx
        · split at hx
          · obtain ⟨z, hz, e3⟩ := Option.map_eq_some_iff.mp hx
            obtain ⟨c, _, e4⟩ := Option.map_eq_some_iff.mp hz
            cases e3
            exact ⟨c, e4.symm⟩
          · cases hx
        · cases hx
      obtain ⟨c, rfl⟩ := isb
      cases hb1
      cases rv
      exact ⟨_, rfl, q ρ1 H1 x1 hr1⟩
    · cases e
theorem s_chn (G : Gd X C T O k) {op op' : CmpOp} {c : Expr} (ha : PE X a (tV C sa.v)) (hb : PE X b (tV C sb.v)) (hc : PE X c (tV C sc.v)) (hn : notSet c = true) : PE X (.Compare a [op, op'] [b, c] pos) (tV C (chain op op' sa sb sc)) :=
  (pe_chain (op_cmp G.K G.w G.hu) (op_cmp G.K G.w G.hu) ha hb hc (last_ok hn)).imp fun σ H Q ⟨ρ, en, h, d, h', sr, hr, e, q⟩ => by
    unfold chain at e
    split at e
    · rename_i x h1 hx
      split at e
      · rename_i y h2 hy
        refine ⟨ρ, en, h, x, h1, sr, hr, hx, fun ρ1 H1 v x1 hr1 rv => ⟨ρ1, en, h1, y, h2, sr.mono x1, hr1, hy, fun ρ2 H2 w x2 hr2 rw2 => ?_⟩⟩
        split at e
        · rename_i hc1
          split at e
          · rename_i z h3 hz
            obtain ⟨r, hr3, e2⟩ := Option.map_eq_some_iff.mp e
            obtain ⟨bb, hbb, e3⟩ := Option.map_eq_some_iff.mp hr3
            subst e3
            cases e2
            refine ⟨ρ2, h2, x, y, true, hr2, rv.mono x2, rw2, hc1, fun ρ3 H3 u x3 hr3 ru => ?_⟩
            cases ru
            refine ⟨true, rfl, iteT ⟨ρ3, en, h2, z, _, sr.mono ((x1.trans x2).trans x3), hr3, hz, fun ρ4 H4 u4 x4 hr4 ru4 => ?_⟩⟩
            exact ⟨ρ4, _, y, z, bb, hr4, (rw2.mono x3).mono x4, ru4, hbb, fun ρ5 H5 u5 x5 hr5 ru5 => q ρ5 H5 u5 ((((x1.trans x2).trans x3).trans x4).trans x5) hr5 ru5⟩
          · cases e
        · rename_i hc1
          cases e
          refine ⟨ρ2, _, x, y, false, hr2, rv.mono x2, rw2, hc1, fun ρ3 H3 u x3 hr3 ru => ?_⟩
          cases ru
          exact ⟨false, rfl, iteF (q ρ3 H3 _ ((x1.trans x2).trans x3) hr3 (.bl _))⟩
        · cases e
      · cases e
    · cases e
theorem s_neg (ha : PE X a (tV C sa.v)) : PE X (.UnaryOp .USub a pos) (tV C fun σ h => match sa.v σ h with
    | some (.int i, h1) => some (.int (-i), h1)
    | _ => none) :=
  (pe_un un_neg ha).imp fun σ H Q ⟨ρ, en, h, d, h', sr, hr, e, q⟩ => by
    dsimp only at e
    split at e
    · rename_i i h1 hx
      cases e
      exact ⟨ρ, en, h, _, _, sr, hr, hx, fun ρ1 H1 v x1 hr1 rv => by
        cases rv
        exact ⟨i, rfl, q ρ1 H1 _ x1 hr1 (.int _)⟩⟩
    · cases e
theorem s_idx (G : Gd X C T O k) (ha : PE X a (tV C sa.v)) (hb : PE X b (tV C sb.v)) (hn : plainIx b = true) : PE X (.Subscript a b pos) (tV C (two sa sb idxD)) :=
  (pe_ix (ix_any G.K G.w G.hu) ha hb (ix_ok hn)).imp fun σ H Q hq => two_ (f := idxD) (fun _ _ _ _ z => z) hq
theorem s_slc (G : Gd X C T O k) {lo hi : Option Expr} {ml mh : Option Sm} {p2 : Pos} (ha : PE X a (tV C sa.v)) (hl : PO X lo (tO_ C ml)) (hh : PO X hi (tO_ C mh)) : PE X (.Subscript a (.Slice lo hi none p2) pos) (tV C fun σ h => match sa.v σ h with
    | some (x, h1) => match part ml σ h1 with
      | some (l, h2) => match part mh σ h2 with
        | some (u, h3) => (slcD x l u h3).map fun z => (z, h3)
        | none => none
      | none => none
    | none => none) :=
  (pe_slice (sl_any G.K) ha hl hh).imp fun σ H Q ⟨ρ, en, h, d, h', sr, hr, e, q⟩ => by
    dsimp only at e
    split at e
    · rename_i x h1 hx
      split at e
      · rename_i l h2 hl
        split at e
        · rename_i u h3 hu
          obtain ⟨z, hz, e2⟩ := Option.map_eq_some_iff.mp e
          cases e2
          exact ⟨ρ, en, h, x, h1, sr, hr, hx, fun ρ1 H1 v x1 hr1 rv => ⟨ρ1, en, h1, l, h2, sr.mono x1, hr1, hl, fun ρ2 H2 x2 hr2 => ⟨ρ2, en, h2, u, _, sr.mono (x1.trans x2), hr2, hu, fun ρ3 H3 x3 hr3 =>
            ⟨ρ3, _, x, _, hr3, (rv.mono x2).mono x3, hz, fun ρ4 H4 w x4 hr4 rw4 => q ρ4 H4 w (((x1.trans x2).trans x3).trans x4) hr4 rw4⟩⟩⟩⟩
        · cases e
      · cases e
    · cases e
theorem s_on : PO X none (tO_ C none) := po_none.imp fun σ H Q ⟨ρ, en, h, o, h', sr, hr, e, q⟩ => by
  cases e
  exact q ρ H (Ext.refl _ _) hr
theorem s_os (ha : PE X a (tV C sa.v)) : PO X (some a) (tO_ C (some sa)) := (po_some ha).imp fun σ H Q ⟨ρ, en, h, o, h', sr, hr, e, q⟩ => by
  change (match sa.v en h with
    | some (.int i, h1) => some (some i, h1)
    | _ => none) = some (o, h') at e
  split at e
  · rename_i i h1 hx
    cases e
    exact ⟨ρ, en, h, _, _, sr, hr, hx, fun ρ1 H1 v x1 hr1 rv => by
      cases rv
      exact ⟨i, rfl, q ρ1 H1 x1 hr1⟩⟩
  · cases e
/-! tests -/
theorem s_tst (G : Gd X C T O k) (ha : PE X a (tV C sa.v)) (hn : plainTest a = true) : PT X a (tB_ C (truS sa.v)) :=
  (pt_truth ha (test_ok hn)).imp fun σ H Q ⟨ρ, en, h, b, h', sr, hr, e, q⟩ => by
    unfold truS at e
    split at e
    · rename_i x h1 hx
      obtain ⟨b1, hb, e2⟩ := Option.map_eq_some_iff.mp e
      cases e2
      exact ⟨ρ, en, h, x, _, sr, hr, hx, fun ρ1 H1 v x1 hr1 rv => ⟨_, tru_any G.K hr1 rv hb, q ρ1 H1 x1 hr1⟩⟩
    · cases e
theorem s_notT (ha : PT X a (tB_ C sa.t)) : PT X (.UnaryOp .Not a pos) (tB_ C fun σ h => match sa.t σ h with
        | some (b, h1) => some (!b, h1)
        | none => none) :=
  (pt_not ha).imp fun σ H Q ⟨ρ, en, h, b, h', sr, hr, e, q⟩ => by
    dsimp only at e
    split at e
    · rename_i b1 h1 hx
      cases e
      exact ⟨ρ, en, h, b1, _, sr, hr, hx, q⟩
    · cases e
theorem s_and1 (ha : PT X a (tB_ C sa.t)) : PW X (.BoolOp .And [a] pos) (tB_ C (andT [sa])) := (pw_and1 ha).imp fun σ H Q z => z
theorem s_or1 (ha : PT X a (tB_ C sa.t)) : PW X (.BoolOp .Or [a] pos) (tB_ C (orT [sa])) := (pw_or1 ha).imp fun σ H Q z => z
theorem s_andT {es : List Expr} {ms : List Sm} (ha : PT X a (tB_ C sa.t)) (hb : PW X (.BoolOp .And (b :: es) pos) (tB_ C (andT (sb :: ms)))) : PW X (.BoolOp .And (a :: b :: es) pos) (tB_ C (andT (sa :: sb :: ms))) :=
  (pw_and ha hb).imp fun σ H Q ⟨ρ, en, h, b, h', sr, hr, e, q⟩ => by
    unfold andT at e
    split at e
    · rename_i h1 hx
      exact ⟨ρ, en, h, true, h1, sr, hr, hx, fun ρ1 H1 x1 hr1 => iteT ⟨ρ1, en, h1, b, h', sr.mono x1, hr1, e, fun ρ2 H2 x2 hr2 => q ρ2 H2 (x1.trans x2) hr2⟩⟩
    · rename_i h1 hx
      cases e
      exact ⟨ρ, en, h, false, _, sr, hr, hx, fun ρ1 H1 x1 hr1 => iteF (q ρ1 H1 x1 hr1)⟩
    · cases e
theorem s_orT {es : List Expr} {ms : List Sm} (ha : PT X a (tB_ C sa.t)) (hb : PW X (.BoolOp .Or (b :: es) pos) (tB_ C (orT (sb :: ms)))) : PW X (.BoolOp .Or (a :: b :: es) pos) (tB_ C (orT (sa :: sb :: ms))) :=
  (pw_or ha hb).imp fun σ H Q ⟨ρ, en, h, b, h', sr, hr, e, q⟩ => by
    unfold orT at e
    split at e
    · rename_i h1 hx
      exact ⟨ρ, en, h, false, h1, sr, hr, hx, fun ρ1 H1 x1 hr1 => iteF ⟨ρ1, en, h1, b, h', sr.mono x1, hr1, e, fun ρ2 H2 x2 hr2 => q ρ2 H2 (x1.trans x2) hr2⟩⟩
    · rename_i h1 hx
      cases e
      exact ⟨ρ, en, h, true, _, sr, hr, hx, fun ρ1 H1 x1 hr1 => iteT (q ρ1 H1 x1 hr1)⟩
    · cases e
theorem s_and1V (ha : PE X a (tV C sa.v)) : PE X (.BoolOp .And [a] pos) (tV C (andV [sa])) := (pe_one ha).imp fun σ H Q z => z
theorem s_or1V (ha : PE X a (tV C sa.v)) : PE X (.BoolOp .Or [a] pos) (tV C (orV [sa])) := (pe_one ha).imp fun σ H Q z => z
theorem s_andV {es : List Expr} {ms : List Sm} (ha : PE X a (tV C sa.v)) (hb : PE X (.BoolOp .And (b :: es) pos) (tV C (andV (sb :: ms)))) : PE X (.BoolOp .And (a :: b :: es) pos) (tV C (andV (sa :: sb :: ms))) :=
  (pe_and ha hb).imp fun σ H Q ⟨ρ, en, h, d, h', sr, hr, e, q⟩ => by
    unfold andV at e
    split at e
    · rename_i h1 hx
      exact ⟨ρ, en, h, .bl true, h1, sr, hr, hx, fun ρ1 H1 v x1 hr1 rv => by
        cases rv
        exact ⟨true, rfl, iteT ⟨ρ1, en, h1, d, h', sr.mono x1, hr1, e, fun ρ2 H2 w x2 hr2 rw2 => q ρ2 H2 w (x1.trans x2) hr2 rw2⟩⟩⟩
    · rename_i h1 hx
      cases e
      exact ⟨ρ, en, h, .bl false, _, sr, hr, hx, fun ρ1 H1 v x1 hr1 rv => by
        cases rv
        exact ⟨false, rfl, iteF (q ρ1 H1 _ x1 hr1 (.bl _))⟩⟩
    · cases e
theorem s_orV {es : List Expr} {ms : List Sm} (ha : PE X a (tV C sa.v)) (hb : PE X (.BoolOp .Or (b :: es) pos) (tV C (orV (sb :: ms)))) : PE X (.BoolOp .Or (a :: b :: es) pos) (tV C (orV (sa :: sb :: ms))) :=
  (pe_or ha hb).imp fun σ H Q ⟨ρ, en, h, d, h', sr, hr, e, q⟩ => by
    unfold orV at e
    split at e
    · rename_i h1 hx
      exact ⟨ρ, en, h, .bl false, h1, sr, hr, hx, fun ρ1 H1 v x1 hr1 rv => by
        cases rv
        exact ⟨false, rfl, iteF ⟨ρ1, en, h1, d, h', sr.mono x1, hr1, e, fun ρ2 H2 w x2 hr2 rw2 => q ρ2 H2 w (x1.trans x2) hr2 rw2⟩⟩⟩
    · rename_i h1 hx
      cases e
      exact ⟨ρ, en, h, .bl true, _, sr, hr, hx, fun ρ1 H1 v x1 hr1 rv => by
        cases rv
        exact ⟨true, rfl, iteT (q ρ1 H1 _ x1 hr1 (.bl _))⟩⟩
    · cases e
/-- not, as a value -/
theorem s_not (G : Gd X C T O k) (ha : PE X a (tV C sa.v)) : PE X (.UnaryOp .Not a pos) (tV C fun σ h => match truS sa.v σ h with
        | some (b, h1) => some (.bl (!b), h1)
        | none => none) :=
  (pe_notT ha).imp fun σ H Q ⟨ρ, en, h, d, h', sr, hr, e, q⟩ => by
    dsimp only at e
    split at e
    · rename_i b1 h1 hx
      cases e
      unfold truS at hx
      split at hx
      · rename_i x h2 hx2
        obtain ⟨b2, hb, e2⟩ := Option.map_eq_some_iff.mp hx
        cases e2
        exact ⟨ρ, en, h, x, _, sr, hr, hx2, fun ρ1 H1 v x1 hr1 rv => ⟨_, tru_any G.K hr1 rv hb, q ρ1 H1 _ x1 hr1 (.bl _)⟩⟩
      · cases hx
    · cases e
theorem s_ife {c : Expr} (hc : PT X c (tB_ C sc.t)) (ha : PE X a (tV C sa.v)) (hb : PE X b (tV C sb.v)) : PE X (.IfExp c a b pos) (tV C (ifV sc sa sb)) :=
  (pe_ifExp hc ha hb).imp fun σ H Q ⟨ρ, en, h, d, h', sr, hr, e, q⟩ => by
    unfold ifV at e
    split at e
    · rename_i h1 hx
      exact ⟨ρ, en, h, true, h1, sr, hr, hx, fun ρ1 H1 x1 hr1 => iteT ⟨ρ1, en, h1, d, h', sr.mono x1, hr1, e, fun ρ2 H2 w x2 hr2 rw2 => q ρ2 H2 w (x1.trans x2) hr2 rw2⟩⟩
    · rename_i h1 hx
      exact ⟨ρ, en, h, false, h1, sr, hr, hx, fun ρ1 H1 x1 hr1 => iteF ⟨ρ1, en, h1, d, h', sr.mono x1, hr1, e, fun ρ2 H2 w x2 hr2 rw2 => q ρ2 H2 w (x1.trans x2) hr2 rw2⟩⟩
    · cases e
end
end EV

set_option Elab.async false
set_option linter.all false
set_option maxRecDepth 100000
set_option maxHeartbeats 4000000
namespace EV
open PySem PySem.Spec PyProof.Rows L2
section
variable {X : Cx} {C : Cn} {T : Tb} {O : Orc} {k : Nat} {pos : Pos} {a b : Expr} {sa sb sc : Sm}
theorem run_fnG {pins : List (Addr × Obj)} {σ : L2.St} {H : Hp} {s : Shared} {f : Addr} {sp : Sp} {Q : VK} {us : List Value} {vs : List V} (F : FnG X.prog X.w X.K X.mg X.base k f sp) (hr : Rm k X.A) (I : Inv X pins σ H s) (r : Vals vs us) (h : sp vs H Q fun _ _ _ => False) :
    codeAny (model X.prog X.w) X.A (.call (.ref f) ⟨us, []⟩) (fun r s' => match r with | .ok (.ret v) => EP X pins σ Q v s' | .ok _ => False | .error e => X.xe e s') s := by
  refine codeAny_mono (F X.A X.stack s H us vs Q _ hr I.env0 r h) fun r s' hq => ?_
  cases r with
  | error e => exact False.elim hq
  | ok fl =>
    cases fl with
    | ret u => exact I.after hq
    | next => exact False.elim hq
    | brk => exact False.elim hq
    | cont => exact False.elim hq
theorem gl_of {sc : Scope} {x : Str} (h : glB sc x = true) : sc.names.lookup x = some .globalImplicit ∧ (x == ("__debug__" : Str)) = false ∧ x ≠ "__name__" := by
  unfold glB at h
  rw [Bool.and_eq_true] at h
  exact ⟨of_decide_eq_true h.1, (okN_of h.2).1, (okN_of h.2).2.2⟩
def calS (O : Orc) (f : Nat) (ms : List Sm) (σ : En) (h : MH) : Option (D × MH) := if O.isF f then match evs ms σ h with
      | some (ds, h1) => O.call f ds h1
      | none => none
    else none
theorem s_call0 {f : Nat} {x : Str} {q : Pos} (G : Gd X C T O k) (hx : T.uN f = x) (hg : glB X.env.scope x = true) :
    PE X (.Call (.Name x q) [] [] pos) (tV C (calS O f [])) := by
  refine ⟨fun pins s σ H Q I h => ?_⟩
  obtain ⟨ρ, en, h0, d, h', sr, hr, e, q⟩ := h
  unfold calS at e
  split at e
  · rename_i hf
    obtain ⟨hm, hk⟩ := G.isF f hf
    rw [hx] at hm
    obtain ⟨g1, g2, _⟩ := gl_of hg
    refine wpAny_Call_Name_kw (ld_glob I g1 hm ?_ g2)
    exact PySem.W.callWith_K0 I.kIn hk (wpAny_call (run_fnG (us := []) (vs := []) (G.call f) G.rm I .nil ⟨ρ, h0, [], d, h', hr, .nil, e, q⟩))
  · cases e
theorem s_call {f : Nat} {x : Str} {q : Pos} {e1 : Expr} {es : List Expr} {ms : List Sm} (G : Gd X C T O k) (hx : T.uN f = x) (hg : glB X.env.scope x = true) (hs : PA X (e1 :: es) (tL C ms)) (hn : (e1 :: es).all notStar = true) :
    PE X (.Call (.Name x q) (e1 :: es) [] pos) (tV C (calS O f ms)) := by
  refine ⟨fun pins s σ H Q I h => ?_⟩
  obtain ⟨ρ, en, h0, d, h', sr, hr, e, q⟩ := h
  unfold calS at e
  split at e
  · rename_i hf
    obtain ⟨hm, hk⟩ := G.isF f hf
    rw [hx] at hm
    obtain ⟨g1, g2, _⟩ := gl_of hg
    split at e
    · rename_i ds h1 hds
      refine wpAny_Call_Name_kw (ld_glob I g1 hm ?_ g2)
      rw [List.all_cons, Bool.and_eq_true] at hn
      have hrun := hs.run pos pins s σ H (fun vs H1 => rCal C (O.call f) vs H1 Q fun _ _ _ => False) I ⟨ρ, en, h0, ds, h1, sr, hr, hds, fun ρ1 H1 vs x1 hr1 rvs => ⟨ρ1, h1, ds, d, h', hr1, rvs, e, fun ρ2 H2 v x2 hr2 rv => q ρ2 H2 v (x1.trans x2) hr2 rv⟩⟩
      exact PySem.W.callWith_K (h₀ := X.base) I.ok.mod.kin hk (thn hrun fun us s1 ⟨vs, H1, I1, r, q⟩ => ⟨I1.kIn, wpAny_call (run_fnG (G.call f) G.rm I1 r q)⟩) (star_ok hn.1) (back_any hn.2)
    · cases e
  · cases e
end
end EV

set_option Elab.async false
set_option linter.all false
set_option maxRecDepth 100000
set_option maxHeartbeats 4000000
namespace EV
open PySem PySem.Spec PyProof.Rows L2
section
variable {C : Cn} {ρ : Rho} {H : Hp}
mutual
theorem plain_P : ∀ {n : Nat} {d : D}, plain n d = true → toP d = some (pd d)
  | n, .non, _ => rfl
  | n, .bl _, _ => rfl
  | n, .int _, _ => rfl
  | n, .str _, _ => rfl
  | n + 1, .tup xs, h => by
    have := plains_P (n := n) (ds := xs) h
    show (toPs xs).map _ = _
    rw [this]
    rfl
  | n + 1, .lst xs, h => by
    have := plains_P (n := n) (ds := xs) h
    show (toPs xs).map _ = _
    rw [this]
    rfl
  | 0, .tup xs, h => by cases h
  | 0, .lst xs, h => by cases h
  | n, .dct _ _, h => by cases n <;> cases h
  | n, .scr _, h => by cases n <;> cases h
  | n, .adr _, h => by cases n <;> cases h
  | n, .obj _ _, h => by cases n <;> cases h
  | n, .rep _, h => by cases n <;> cases h
  | n, .kdc _ _, h => by cases n <;> cases h
  | n, .cls _, h => by cases n <;> cases h
theorem plains_P : ∀ {n : Nat} {ds : List D}, plains n ds = true → toPs ds = some (pds ds)
  | _, [], _ => rfl
  | n, x :: xs, h => by
    have h2 := Bool.and_eq_true_iff.mp h
    have h3 := plain_P h2.1
    have h4 := plains_P h2.2
    unfold toPs
    rw [h3, h4]
    rfl
end
mutual
theorem okR_pd : ∀ {d : D}, okR d = true → (pd d).leavesShort 100 = true ∧ (pd d).showable = true ∧ (pd d).weight ≤ wt d
  | .non, _ => ⟨rfl, rfl, Nat.zero_le _⟩
  | .bl _, _ => ⟨rfl, rfl, Nat.zero_le _⟩
  | .int i, h => by
    have h2 := Bool.and_eq_true_iff.mp (show intR i = true from h)
    refine ⟨h2.1, h2.2, ?_⟩
    show (if i == 0 then 0 else i.natAbs.log2 + 1) ≤ i.natAbs.log2 + 1
    split <;> omega
  | .str s, h => by
    refine ⟨?_, rfl, ?_⟩
    · show ((mk s).cps.toList.all fun c => decide (c < 16 ^ 8)) = true
      rw [mk_tl]
      refine List.all_eq_true.mpr fun c hc => decide_eq_true ?_
      have := okS_lt h c hc
      omega
    · show (mk s).cps.size ≤ s.length
      exact Nat.le_of_eq (mk_len s)
  | .tup xs, h => okRs_pd (ds := xs) h
  | .lst xs, h => okRs_pd (ds := xs) h
  | .dct _ _, h => by cases h
  | .scr _, h => by cases h
  | .adr _, h => by cases h
  | .obj _ _, h => by cases h
  | .rep _, h => by cases h
  | .kdc _ _, h => by cases h
  | .cls _, h => by cases h
theorem okRs_pd : ∀ {ds : List D}, okRs ds = true → PyData.leavesShortAll 100 (pds ds) = true ∧ PyData.showableAll (pds ds) = true ∧ PyData.weightAll (pds ds) ≤ wts ds
  | [], _ => ⟨rfl, rfl, Nat.zero_le _⟩
  | x :: xs, h => by
    have h2 := Bool.and_eq_true_iff.mp h
    have h3 := okR_pd h2.1
    have h4 := okRs_pd h2.2
    refine ⟨Bool.and_eq_true_iff.mpr ⟨h3.1, h4.1⟩, Bool.and_eq_true_iff.mpr ⟨h3.2.1, h4.2.1⟩, ?_⟩
    show (pd x).weight + 1 + PyData.weightAll (pds xs) ≤ wt x + 1 + wts xs
    have := h3.2.2
    have := h4.2.2
    omega
end
end
section
variable {X : Cx} {C : Cn}
theorem bif_repr (hK : X.K = C.K) (hg : X.A.guards = some []) (hu : X.A.units + 65 < cLine) : CallR X (.builtin "repr") (rBif C .repr) := by
  intro pins s σ H vs us Q I r hq
  obtain ⟨ρ, h, ds, z, h', hr, rs, e, q⟩ := hq
  change repB h ds = some (z, h') at e
  unfold repB at e
  split at e
  · rename_i d
    split at e
    · rename_i hc
      cases e
      simp only [Bool.and_eq_true, decide_eq_true_eq] at hc
      obtain ⟨⟨hp, hk⟩, hw⟩ := hc
      obtain ⟨v, rfl, rv⟩ := rs.one
      have hd := rv.dp hp
      have hl := pd_lay hp rv
      obtain ⟨o1, o2, o3⟩ := okR_pd hk
      have sz : (pd d).shown.length ≤ sizeLine := by
        have := PyData.shown_le 100 (by decide) (pd d) o1
        have h2 : (100 + 2) * (pd d).weight ≤ 102 * 100000 := Nat.mul_le_mul (by omega) (by omega)
        rw [sizeLine_eq]
        omega
      have fin : ∀ (u : Value) (s' : Shared), Inv X pins σ H s' → RelV (.str (pd d).shown) u → EP X pins σ Q u s' := fun u s' I' ru => ⟨.str (pd d).shown, H, I', ru, q.here hr (.rep (plain_P hp))⟩
      rw [← hK] at hd
      obtain ⟨u, rfl, ru⟩ : ∃ u, us = [u] ∧ RelV v u := by
        cases r with | cons a b => cases b; exact ⟨_, rfl, a⟩
      obtain ⟨as, rd⟩ := Dp.reads I (pd d) v u hd ru
      generalize hpe : pd d = p at *
      cases rd with
      | none => exact PySem.P.repr_of_none (fin _ _ (I.tok _) ⟨_, rfl⟩)
      | bool b => exact PySem.P.repr_of_bool (fin _ _ (I.tok _) ⟨_, rfl⟩)
      | int i t => exact PySem.P.repr_of_int (of_decide_eq_true o2) (fin _ _ (I.tok _) ⟨_, rfl⟩)
      | str x t => exact PySem.P.repr_of_str (fin _ _ (I.tok _) ⟨_, rfl⟩) sz
      | list a1 a2 a3 a4 =>
        have rd := Reads.list a1 a2 a3 a4
        exact repr_of_reads' rd o2 (PyData.noDict_hsm (PyData.hasDict_of_canLay _ hl.1)) hg (by have := hl.2; omega) (fun _ _ e => e) (fun h' u tk hk => fin _ _ (I.kept (t' := tk) hk) ⟨_, rfl⟩) sz
      | tuple a1 a2 a3 a4 =>
        have rd := Reads.tuple a1 a2 a3 a4
        exact repr_of_reads' rd o2 (PyData.noDict_hsm (PyData.hasDict_of_canLay _ hl.1)) hg (by have := hl.2; omega) (fun _ _ e => e) (fun h' u tk hk => fin _ _ (I.kept (t' := tk) hk) ⟨_, rfl⟩) sz
      | dict a1 a2 a3 a4 a5 =>
        have := PyData.hasDict_of_canLay _ hl.1
        cases this
    · cases e
  · cases e
end
end EV

set_option Elab.async false
set_option linter.all false
set_option maxRecDepth 100000
set_option maxHeartbeats 4000000
namespace EV
open PySem PySem.Spec PyProof.Rows L2
section
variable {X : Cx} {C : Cn}
theorem bim_insert : MtR X "list.insert" (rBim C .insert) := by
  intro pins s σ H x vs v us Q I rx rs hq
  obtain ⟨ρ, h, dx, ds, z, h', hr, r1, r2, e, q⟩ := hq
  change insertM h dx ds = some (z, h') at e
  unfold insertM at e
  split at e
  · split at e
    · rename_i ys hy
      split at e
      · rename_i hc
        cases e
        rename_i n0 i0 v0 _
        rw [Bool.and_eq_true, decide_eq_true_eq] at hc
        obtain ⟨⟨h0, h1⟩, hl⟩ := hc
        obtain ⟨iv, w, rfl, ri, rw1⟩ := r2.two
        cases ri
        cases r1 with
        | @adr n a hn =>
          obtain ⟨u, h2, ws, rfl, h3⟩ := hr.obj _ _ _ hn hy
          have hlen := h3.len
          have hz : ws.length ≤ sizeLine := (I.lstM h2).1
          have h63 := line63
          refine mt_insert pins s σ H _ _ v us Q I rx rs ⟨_, ws, _, w, rfl, rfl, h2, ?_, h0, by omega, ?_⟩
          · rw [← hlen]; exact okL_lt hl
          · have x := Ext.put (o := .lst (ws.take i0.toNat ++ [w] ++ ws.drop i0.toNat)) hr hn
            refine q ρ _ _ x (hr.put hn ⟨_, rfl, ?_⟩) .non
            rw [List.append_assoc]
            exact (h3.take _).app (.cons rw1 (h3.drop _))
      · cases e
    · cases e
  · cases e
theorem up_ok : ∀ c : Nat, c < 128 → Unicode.upperOf c = [up c] := by decide +kernel
theorem up_txt : ∀ s : S, (∀ c ∈ s, c < 128) → Txt.upper (mk s) = mk (s.map up) := fun s h => by
  unfold Txt.upper placed mk
  congr 1
  have e : (Array.mapIdx (fun i c => (Unicode.upperOf c).toArray) s.toArray) = (s.map fun c => #[up c]).toArray := by
    apply Array.ext'
    simp only [Array.toList_mapIdx, List.mapIdx_eq_zipIdx_map, List.toList_toArray]
    rw [show (List.map (fun x => match x with | (a, i) => (Unicode.upperOf a).toArray) s.zipIdx) = (s.zipIdx.map (·.1)).map (fun a => (Unicode.upperOf a).toArray) by rw [List.map_map]; rfl]
    rw [List.zipIdx_map_fst]
    refine List.map_congr_left fun c hc => ?_
    rw [up_ok c (h c hc)]
  rw [e]
  apply Array.ext'
  simp only [Array.toList_flatten, List.map_map, List.toList_toArray]
  clear e h
  induction s with
  | nil => rfl
  | cons c s ih => simp only [List.map_cons, List.flatten_cons, Function.comp, ih]; rfl
theorem bim_upper : MtR X "str.upper" (rBim C .upper) := by
  intro pins s σ H x vs v us Q I rx rs hq
  obtain ⟨ρ, h, dx, ds, z, h', hr, r1, r2, e, q⟩ := hq
  change upperM h dx ds = some (z, h') at e
  unfold upperM at e
  split at e
  · rename_i t
    cases e
    obtain ⟨o1, rfl⟩ := r1.okS_
    cases r2
    refine mt_upper pins s σ H _ _ v us Q I rx rs ⟨_, rfl, rfl, ?_, ?_⟩
    · rw [mk_len]
      have := okS_len o1
      omega
    · rw [up_txt t (okS_lt o1)]
      refine q.here hr (.str _ (okS_of ?_ fun c hc => ?_))
      · rw [List.length_map]; exact okS_len o1
      · obtain ⟨b, hb, rfl⟩ := List.mem_map.mp hc
        have := okS_lt o1 b hb
        unfold up
        split <;> omega
  · cases e
theorem bim_dgetD (hu : X.A.units + 65 < cLine) : MtR X "dict.get" (rBim C .dgetD) := by
  intro pins s σ H x vs v us Q I rx rs hq
  obtain ⟨ρ, h, dx, ds, z, h', hr, r1, r2, e, q⟩ := hq
  change dgetDM h dx ds = some (z, h') at e
  unfold dgetDM at e
  split at e
  · rename_i kd vd
    split at e
    · rename_i ks ws hd
      split at e
      · rename_i hk
        cases e
        rw [Bool.and_eq_true] at hk
        obtain ⟨hk, hnk⟩ := hk
        obtain ⟨kv, w, rfl, rk, rw1⟩ := r2.two
        obtain ⟨a, rfl, kvs, ha, hks, rv⟩ : ∃ a, x = .ref a ∧ ∃ kvs, H a = some (.dK kvs) ∧ ks.map keyV = kvs.map (fun q => some q.1) ∧ RDs C ρ H ws (kvs.map (·.2)) := by
          cases r1 with
          | dct a b c d => cases hd; exact ⟨_, rfl, _, a, c, d⟩
          | dctK a b c => cases hnk
          | @adr n a q =>
            have e' : (match h[n]? with | some (.dct ks vs) => some (ks, vs) | _ => none) = some (ks, ws) := hd
            split at e'
            · rename_i k2 v2 hy
              cases e'
              obtain ⟨u, h1, kvs, rfl, h3, h4⟩ := hr.obj _ _ _ q hy
              exact ⟨a, rfl, kvs, h1, h3, h4⟩
            · cases e'
          | _ => cases hd
        cases rx
        obtain ⟨u1, u2, rfl, ru1, ru2⟩ := rs.two
        · obtain ⟨kx, hkx⟩ : ∃ kx, keyV kd = some kx := by
            cases kd <;> first | exact ⟨_, rfl⟩ | cases hk
          have ek : kv = kV kx := by
            cases kd <;> first | (cases hkx; cases rk; rfl) | cases hk
          have lk := valV_look hkx hks rv
          have g : DGet H a kv (valV kvs kx) := .inl ⟨kvs, kx, .inl ha, ek, rfl⟩
          refine d_get2 (by omega) I g ru1 ru2 fun w' s' I' rw' => ⟨_, H, I', rw', ?_⟩
          split at lk
          · rename_i d hd2
            obtain ⟨v1, e1, rv1⟩ := lk
            rw [hd2] at q
            rw [e1]
            exact q.here hr rv1
          · rename_i hd2
            rw [hd2] at q
            rw [lk]
            exact q.here hr rw1
      · cases e
    · cases e
  · cases e
end
end EV

set_option Elab.async false
set_option linter.all false
set_option maxRecDepth 100000
set_option maxHeartbeats 4000000
namespace EV
open PySem PySem.Spec PyProof.Rows L2
section
variable {X : Cx} {C : Cn} {T : Tb} {O : Orc} {k : Nat} {pos p apos : Pos} {a b e1 : Expr} {es : List Expr} {sa : Sm} {ms : List Sm} {x : Str}
theorem bif_ {b : Bi} {σ : L2.St} {H : Hp} {Q : VK} (h : tV C (bifS b ms) σ H Q) : tCB (rBif C b) (tL C ms) σ H Q := by
  obtain ⟨ρ, en, h, d, h', sr, hr, e, q⟩ := h
  unfold bifS at e
  split at e
  · rename_i ds h1 hds
    exact ⟨ρ, en, h, ds, h1, sr, hr, hds, fun ρ1 H1 vs x1 hr1 rvs => ⟨ρ1, h1, ds, d, h', hr1, rvs, e, fun ρ2 H2 v x2 hr2 rv => q ρ2 H2 v (x1.trans x2) hr2 rv⟩⟩
  · cases e
/-- a built-in of that name -/
inductive BiK (X : Cx) (C : Cn) (b : Bi) (x : Str) : Prop
  | f (id : String) : CallR X (.builtin id) (rBif C b) → bootBuiltins x = some (.builtin id) → BiK X C b x
  | t (n : String) : CallR X (.type n) (rBif C b) → bootBuiltins x = some (.type n) → BiK X C b x
theorem s_bif {b : Bi} (G : Gd X C T O k) (hb : BiK X C b x) (hf : x ∈ frees) (hg : glB X.env.scope x = true) (hs : PA X (e1 :: es) (tL C ms)) (hn : (e1 :: es).all notStar = true) :
    PE X (.Call (.Name x p) (e1 :: es) [] pos) (tV C (bifS b ms)) := by
  obtain ⟨g1, g2, g3⟩ := gl_of hg
  rw [List.all_cons, Bool.and_eq_true] at hn
  cases hb with
  | f id hc hv => exact (pe_callB hc g1 (G.free x hf) hv hs g3 g2 (star_ok hn.1) (back_any hn.2)).imp fun σ H Q h => bif_ h
  | t n hc hv => exact (pe_callTy hc g1 (G.free x hf) hv hs g3 g2 (star_ok hn.1) (back_any hn.2)).imp fun σ H Q h => bif_ h
def biOk : Bi → Bool
  | .len | .abs | .min | .max | .any | .all | .list _ | .tuple | .strOf | .intOf | .repr => true
  | _ => false
theorem biK (G : Gd X C T O k) {b : Bi} (h : biOk b = true) : BiK X C b (biN b).1 ∧ (biN b).1 ∈ frees := by
  cases b <;> first | (cases h; done) | skip
  · exact ⟨.f "len" (bif_len G.K G.calm) (by decide +kernel), (by decide +kernel : ("len" : Str) ∈ frees)⟩
  · exact ⟨.f "abs" bif_abs (by decide +kernel), (by decide +kernel : ("abs" : Str) ∈ frees)⟩
  · exact ⟨.f "min" (bif_min G.calm) (by decide +kernel), (by decide +kernel : ("min" : Str) ∈ frees)⟩
  · exact ⟨.f "max" (bif_max G.calm) (by decide +kernel), (by decide +kernel : ("max" : Str) ∈ frees)⟩
  · exact ⟨.f "any" (bif_any G.K G.calm) (by decide +kernel), (by decide +kernel : ("any" : Str) ∈ frees)⟩
  · exact ⟨.f "all" (bif_all G.K G.calm) (by decide +kernel), (by decide +kernel : ("all" : Str) ∈ frees)⟩
  · exact ⟨.t "list" (bif_list G.K) (by show bootBuiltins ("list" : Str) = _; decide +kernel), (by decide +kernel : ("list" : Str) ∈ frees)⟩
  · exact ⟨.t "tuple" (bif_tuple G.K) (by decide +kernel), (by decide +kernel : ("tuple" : Str) ∈ frees)⟩
  · exact ⟨.t "str" bif_str (by decide +kernel), (by decide +kernel : ("str" : Str) ∈ frees)⟩
  · exact ⟨.t "int" bif_int (by decide +kernel), (by decide +kernel : ("int" : Str) ∈ frees)⟩
  · exact ⟨.f "repr" (bif_repr G.K G.rm.gd G.hu) (by decide +kernel), (by decide +kernel : ("repr" : Str) ∈ frees)⟩
/-! methods -/
def bmT : Bm → String
  | .append | .pop | .insert | .extend | .index => "list"
  | .dget | .dgetD => "dict"
  | _ => "str"
theorem ty_of {m : Bm} {ρ : Rho} {H : Hp} {h : MH} {d : D} {v : V} (hr : HR C ρ H h) (r : RD C ρ H d v) (hK : X.K = C.K) (e : tyD m d h = true) : tyV X.K (bmT m) v H := by
  have L : ∀ {d : D}, RD C ρ H d v → (lstD h d).isSome = true → tyV X.K "list" v H := fun {d} r e => by
    obtain ⟨xs, hx⟩ := Option.isSome_iff_exists.mp e
    obtain ⟨a, vs, rfl, ha, _⟩ := lst_at hr hx r
    exact .inl ⟨rfl, vs, .inl (.inl ha)⟩
  have S : ∀ {d : D}, RD C ρ H d v → (match d with | .str _ => true | _ => false) = true → tyV X.K "str" v H := fun {d} r e => by
    cases r <;> first | (cases e; done) | exact True.intro | skip
    exact (show "str" = "str" from rfl)
  have T : ∀ {d : D}, RD C ρ H d v → (match d with
    | .adr n => (match h[n]? with | some (.dct _ _) => true | _ => false)
    | .dct _ _ => true
    | _ => false) = true → tyV X.K "dict" v H := fun {d} r e => by
    cases r with
    | dct a b c d => exact .inr (.inr (.inl ⟨rfl, .inl ⟨_, a⟩⟩))
    | @adr n a q =>
      have e' : (match h[n]? with | some (.dct _ _) => true | _ => false) = true := e
      split at e'
      · rename_i k2 v2 hy
        obtain ⟨u, h1, kvs, rfl, h3, h4⟩ := hr.obj _ _ _ q hy
        exact .inr (.inr (.inl ⟨rfl, .inl ⟨_, h1⟩⟩))
      · cases e'
    | _ => cases e
  cases m <;> first | exact L r e | exact S r e | exact T r e
def bmOk : Bm → Bool
  | .append | .pop | .insert | .partition | .split | .startswith | .join | .upper | .dgetD => true
  | _ => false
theorem bim_ {m : Bm} {σ : L2.St} {H : Hp} {Q : VK} (hK : X.K = C.K) (h : tV C (bimS m sa ms) σ H Q) : tBM X.K (bmT m) (rBim C m) (tV C sa.v) (tL C ms) σ H Q := by
  obtain ⟨ρ, en, h, d, h', sr, hr, e, q⟩ := h
  unfold bimS at e
  split at e
  · rename_i x h1 hx
    split at e
    · rename_i hty
      split at e
      · rename_i ds h2 hds
        exact ⟨ρ, en, h, x, h1, sr, hr, hx, fun ρ1 H1 v x1 hr1 rv => ⟨ty_of hr1 rv hK hty, ρ1, en, h1, ds, h2, sr.mono x1, hr1, hds, fun ρ2 H2 vs x2 hr2 rvs =>
          ⟨ρ2, h2, x, ds, d, h', hr2, rv.mono x2, rvs, e, fun ρ3 H3 w x3 hr3 rw3 => q ρ3 H3 w ((x1.trans x2).trans x3) hr3 rw3⟩⟩⟩
      · cases e
    · cases e
  · cases e
theorem few_ok {env : Env} (hn : (e1 :: es).all notStar = true) (hl : (e1 :: es).length < 29) : ((backTo pos (starEach (e1 :: es) env)).all (fun x => !x.1) && (backToKw pos (keywordEach [] env)).all (fun x => x.1.isSome)
      && decide ((e1 :: es).length + ([] : List Keyword).length + (if ([] : List Keyword).isEmpty then 0 else 1) < 30)) = true := by
  rw [back_all hn, Bool.and_eq_true, Bool.and_eq_true]
  refine ⟨⟨rfl, rfl⟩, decide_eq_true ?_⟩
  show (e1 :: es).length + 0 + 0 < 30
  omega
theorem s_bim {m : Bm} {o : Expr} {cpos : Pos} (G : Gd X C T O k) (hm : bmOk m = true) (ho : PE X o (tV C sa.v)) (hs : PA X (e1 :: es) (tL C ms)) (hn : (e1 :: es).all notStar = true) (hl : (e1 :: es).length < 29)
    (hb : plainBase o = true) (hline : (apos.endLine == cpos.line) = true) : PE X (.Call (.Attribute o (bmN m) apos) (e1 :: es) [] cpos) (tV C (bimS m sa ms)) := by
  have fw := few_ok (pos := cpos) (env := X.env) hn hl
  have st := star_ok (env := X.env) (e := e1) (es := es) (Bool.and_eq_true_iff.mp hn).1
  have bk := back_any (pos := cpos) (env := X.env) (es := es) (Bool.and_eq_true_iff.mp hn).2
  have bo := base_ok (f := bmN m) (env := X.env) hb
  cases m <;> first | (cases hm; done) | skip
  · exact (pe_bm PySem.F.plainAttrs_list PySem.F.slot_list_append PySem.F.type_list_append bim_append ho hs bo fw hline st bk).imp fun σ H Q h => bim_ G.K h
  · exact (pe_bm PySem.F.plainAttrs_list PySem.F.slot_list_pop PySem.F.type_list_pop bim_pop ho hs bo fw hline st bk).imp fun σ H Q h => bim_ G.K h
  · exact (pe_bm PySem.F.plainAttrs_list PySem.F.slot_list_insert PySem.F.type_list_insert bim_insert ho hs bo fw hline st bk).imp fun σ H Q h => bim_ G.K h
  · exact (pe_bm PySem.F.plainAttrs_str PySem.F.slot_str_partition PySem.F.type_str_partition bim_partition ho hs bo fw hline st bk).imp fun σ H Q h => bim_ G.K h
  · exact (pe_bm PySem.F.plainAttrs_str PySem.F.slot_str_split PySem.F.type_str_split bim_split ho hs bo fw hline st bk).imp fun σ H Q h => bim_ G.K h
  · exact (pe_bm PySem.F.plainAttrs_str PySem.F.slot_str_startswith PySem.F.type_str_startswith bim_startswith ho hs bo fw hline st bk).imp fun σ H Q h => bim_ G.K h
  · exact (pe_bm PySem.F.plainAttrs_str PySem.F.slot_str_join PySem.F.type_str_join (bim_join G.K) ho hs bo fw hline st bk).imp fun σ H Q h => bim_ G.K h
  · exact (pe_bm PySem.F.plainAttrs_str PySem.F.slot_str_upper PySem.F.type_str_upper bim_upper ho hs bo fw hline st bk).imp fun σ H Q h => bim_ G.K h
  · exact (pe_bm PySem.F.plainAttrs_dict PySem.F.slot_dict_get PySem.F.type_dict_get (bim_dgetD G.hu) ho hs bo fw hline st bk).imp fun σ H Q h => bim_ G.K h
theorem bim0_ {m : Bm} {σ : L2.St} {H : Hp} {Q : VK} (hK : X.K = C.K) (h : tV C (bimS m sa []) σ H Q) : tBM0 X.K (bmT m) (rBim C m) (tV C sa.v) σ H Q := by
  obtain ⟨ρ, en, h, d, h', sr, hr, e, q⟩ := h
  unfold bimS at e
  split at e
  · rename_i x h1 hx
    split at e
    · rename_i hty
      change bimD m x [] h1 = some (d, h') at e
      exact ⟨ρ, en, h, x, h1, sr, hr, hx, fun ρ1 H1 v x1 hr1 rv => ⟨ty_of hr1 rv hK hty, ρ1, h1, x, [], d, h', hr1, rv, .nil, e, fun ρ3 H3 w x3 hr3 rw3 => q ρ3 H3 w (x1.trans x3) hr3 rw3⟩⟩
    · cases e
  · cases e
def bmOk0 : Bm → Bool
  | .pop | .upper => true
  | _ => false
theorem s_bim0 {m : Bm} {o : Expr} {cpos : Pos} (G : Gd X C T O k) (hm : bmOk0 m = true) (ho : PE X o (tV C sa.v)) (hb : plainBase o = true) (hline : (apos.endLine == cpos.line) = true) :
    PE X (.Call (.Attribute o (bmN m) apos) [] [] cpos) (tV C (bimS m sa [])) := by
  have bo := base_ok (f := bmN m) (env := X.env) hb
  cases m <;> first | (cases hm; done) | skip
  · exact (pe_bm0 PySem.F.plainAttrs_list PySem.F.slot_list_pop PySem.F.type_list_pop bim_pop ho bo hline).imp fun σ H Q h => bim0_ G.K h
  · exact (pe_bm0 PySem.F.plainAttrs_str PySem.F.slot_str_upper PySem.F.type_str_upper bim_upper ho bo hline).imp fun σ H Q h => bim0_ G.K h
end
end EV

set_option Elab.async false
set_option linter.all false
set_option maxRecDepth 100000
set_option maxHeartbeats 4000000
namespace EV
open PySem PySem.Spec PyProof.Rows L2
def tyNs : List String := ["NoneType", "bool", "int", "str", "tuple", "list", "dict"]
def tySs : List String := ["str", "int", "bool", "tuple", "list", "dict"]
theorem kitB_all : (tyNs.all fun a => tySs.all fun b => decide (kitB a b = some (subT a b))) = true := by decide +kernel
theorem kitB_of {a b : String} (ha : a ∈ tyNs) (hb : b ∈ tySs) : kitB a b = some (subT a b) := by
  have h := kitB_all
  rw [List.all_eq_true] at h
  have h2 := h a ha
  rw [List.all_eq_true] at h2
  exact of_decide_eq_true (h2 b hb)
theorem boot_all : (tySs.all fun b => decide (bootBuiltins (Str.ofString b) = some (.type b))) = true := by decide +kernel
theorem boot_of {b : String} (hb : b ∈ tySs) : bootBuiltins (Str.ofString b) = some (.type b) := by
  have h := boot_all
  rw [List.all_eq_true] at h
  exact of_decide_eq_true (h b hb)
theorem tyS_mem {t : Ty} {b : String} (h : tyS t = some b) : b ∈ tySs ∧ Str.ofString b ∈ frees := by
  cases t <;> first | (cases h; done) | (cases h; decide +kernel)
theorem dTy_mem {h : MH} {d : D} {a : String} (e : dTy h d = some a) : a ∈ tyNs := by
  have L : ∀ x : String, x ∈ tyNs → some x = some a → a ∈ tyNs := fun x hx e => by cases e; exact hx
  cases d with
  | adr n =>
    have e' : (match h[n]? with | some (.lst _) => some "list" | some (.dct _ _) => some "dict" | _ => none) = some a := e
    split at e'
    · exact L _ (by decide +kernel) e'
    · exact L _ (by decide +kernel) e'
    · cases e'
  | obj _ _ => cases e
  | cls _ => cases e
  | _ => exact L _ (by decide +kernel) e
section
variable {X : Cx} {C : Cn} {T : Tb} {O : Orc} {k : Nat} {pos p apos : Pos} {a b e1 : Expr} {es : List Expr} {sa : Sm} {ms : List Sm} {x : Str}
theorem tyx {ρ : Rho} {H : Hp} {h : MH} {d : D} {v : V} {n : String} (hK : X.K = C.K) (hr : HR C ρ H h) (r : RD C ρ H d v) (e : dTy h d = some n) : TyX X.K H v (.type n) := by
  cases r with
  | non => cases e; exact .base .non
  | bl b => cases e; exact .base (.bl b)
  | int i => cases e; exact .base (.int i)
  | str s h => cases e; exact .base (.str _)
  | rep h => cases e; exact .base (.str _)
  | tup a b c =>
    cases e
    rcases a with a | ⟨o, a⟩
    · exact .base (.tup a)
    · exact .fTuple a
  | tupK a b c d e' f => cases e; rw [hK]; exact .kTuple a b
  | lst a b c => cases e; exact .base (.lst a)
  | scr a b => cases e; exact .base (.frz a)
  | scrK a b => cases e; rw [hK]; exact .kList a b
  | dct a b c d => cases e; exact .base (.dK a)
  | dctK a b c => cases e; obtain ⟨⟨es, n, D0⟩, _⟩ := a; rw [hK]; exact .kDict D0.at_ rfl
  | obj a b c d => cases e
  | cls c => cases e
  | @adr m a q =>
    have e' : (match h[m]? with | some (.lst _) => some "list" | some (.dct _ _) => some "dict" | _ => none) = some n := e
    split at e'
    · rename_i xs hy
      cases e'
      obtain ⟨u, h1, vs, rfl, h3⟩ := hr.obj _ _ _ q hy
      exact .base (.lst h1)
    · rename_i ks vs hy
      cases e'
      obtain ⟨u, h1, kvs, rfl, h3, h4⟩ := hr.obj _ _ _ q hy
      exact .base (.dK h1)
    · cases e'
theorem pe_tyn {n : String} (hn : n ∈ tySs) (hf : X.mg (Str.ofString n) = none) (hg : glB X.env.scope (Str.ofString n) = true) : PE X (.Name (Str.ofString n) p) (tC (.ty n)) := by
  obtain ⟨g1, g2, g3⟩ := gl_of hg
  exact ⟨fun pins s σ H Q I h => ld_blt I g1 hf (boot_of hn) ⟨.ty n, H, I, rfl, h⟩ g3 g2⟩
/-- isinstance(x, T) -/
theorem s_isi1 {t : Ty} {n : String} {q : Pos} {x : Str} (G : Gd X C T O k) (ha : PE X a (tV C sa.v)) (ht : tyS t = some n) (hx : Str.ofString n = x) (hg : glB X.env.scope x = true) (hi : glB X.env.scope "isinstance" = true) (hn : notStar a = true) :
    PE X (.Call (.Name "isinstance" p) [a, .Name x q] [] pos) (tV C (isiS sa.v [t])) := by
  subst hx
  obtain ⟨m1, m2⟩ := tyS_mem ht
  obtain ⟨g1, g2, g3⟩ := gl_of hi
  have hp := pa_cons ha (pa_cons (pe_tyn (p := q) m1 (G.free _ m2) hg) pa_nil) (star_ok hn)
  refine (pe_callB call_isi g1 (G.free _ (by decide +kernel)) (by decide +kernel) hp g3 g2 (star_ok hn)).imp fun σ H Q ⟨ρ, en, h, d, h', sr, hr, e, q⟩ => ?_
  unfold isiS at e
  split at e
  · rename_i y h1 hy
    obtain ⟨b, hb, e2⟩ := Option.map_eq_some_iff.mp e
    cases e2
    refine ⟨ρ, en, h, y, _, sr, hr, hy, fun ρ1 H1 v x1 hr1 rv => ?_⟩
    show tC (.ty n) σ H1 fun z H2 => _
    change (match isT h' y t, some false with | some a, some b => some (a || b) | _, _ => none) = some b at hb
    cases hd : dTy h' y with
    | none => unfold isT at hb; rw [hd] at hb; cases hb
    | some tn =>
      have e3 : isT h' y t = some (subT tn n) := by unfold isT; rw [hd, ht]
      rw [e3] at hb
      simp only [Bool.or_false] at hb
      cases hb
      exact ⟨v, .ty n, .type tn, .type n, _, rfl, .ty n, tyx G.K hr1 rv hd, kit_ty (kitB_of (dTy_mem hd) m1), q ρ1 H1 _ x1 hr1 (.bl _)⟩
  · cases e
/-- isinstance(x, (T, U)) -/
theorem s_isi2 {t t2 : Ty} {n n2 : String} {q q2 tp : Pos} {x x2 : Str} {kk : Nat} (G : Gd X C T O k) (ha : PE X a (tV C sa.v)) (ht : tyS t = some n) (hx : Str.ofString n = x) (hg : glB X.env.scope x = true) (ht2 : tyS t2 = some n2) (hx2 : Str.ofString n2 = x2) (hg2 : glB X.env.scope x2 = true)
    (hi : glB X.env.scope "isinstance" = true) (hn : notStar a = true) :
    PE X (.Call (.Name "isinstance" p) [a, .Tuple [.Name x q, .Name x2 q2] kk tp] [] pos) (tV C (isiS sa.v [t, t2])) := by
  subst hx hx2
  obtain ⟨m1, m2⟩ := tyS_mem ht
  obtain ⟨m3, m4⟩ := tyS_mem ht2
  obtain ⟨g1, g2, g3⟩ := gl_of hi
  have hp := pa_cons ha (pa_cons (pe_tup (x1 := kk) (pos := tp) (pa_cons (pe_tyn (p := q) m1 (G.free _ m2) hg) (pa_cons (pe_tyn (p := q2) m3 (G.free _ m4) hg2) pa_nil))) pa_nil) (star_ok hn)
  refine (pe_callB call_isiT g1 (G.free _ (by decide +kernel)) (by decide +kernel) hp g3 g2 (star_ok hn)).imp fun σ H Q ⟨ρ, en, h, d, h', sr, hr, e, q⟩ => ?_
  unfold isiS at e
  split at e
  · rename_i y h1 hy
    obtain ⟨b, hb, e2⟩ := Option.map_eq_some_iff.mp e
    cases e2
    refine ⟨ρ, en, h, y, _, sr, hr, hy, fun ρ1 H1 v x1 hr1 rv => ?_⟩
    refine ⟨show 2 ≤ sizeLine by decide, fun pp hpp => ?_⟩
    have xl := Ext.laid (o := .tup [.ty n, .ty n2]) hr1 hpp
    have hrl := hr1.laid (o := .tup [.ty n, .ty n2]) hpp
    change (match isT h' y t, (match isT h' y t2, some false with | some a, some b => some (a || b) | _, _ => none) with | some a, some b => some (a || b) | _, _ => none) = some b at hb
    cases hd : dTy h' y with
    | none => unfold isT at hb; rw [hd] at hb; cases hb
    | some tn =>
      have e3 : isT h' y t = some (subT tn n) := by unfold isT; rw [hd, ht]
      have e4 : isT h' y t2 = some (subT tn n2) := by unfold isT; rw [hd, ht2]
      rw [e3, e4] at hb
      simp only [Bool.or_false] at hb
      cases hb
      refine ⟨v, pp, [.ty n, .ty n2], .type tn, [.type n, .type n2], _, rfl, upd_same, .cons (.ty n) (.cons (.ty n2) .nil), tyx G.K hrl (rv.mono xl) hd, ?_, q ρ1 _ _ (x1.trans xl) hrl (.bl _)⟩
      refine kitAny_cons (kit_ty (kitB_of (dTy_mem hd) m1)) (fun z => ?_) (fun z => by rw [z]; rfl)
      refine kitAny_cons (kit_ty (kitB_of (dTy_mem hd) m3)) (fun z2 => ?_) (fun z2 => by rw [z2, z]; rfl)
      rw [z, z2]
      rfl
  · cases e
end
end EV

set_option Elab.async false
set_option linter.all false
set_option maxRecDepth 100000
set_option maxHeartbeats 4000000
namespace EV
open PySem PySem.Spec PyProof.Rows L2
section
variable {prog : Program} {w : World} {A : Around} {E : Value → Shared → Prop} {s : Shared}
theorem places_rev (n : Nat) : Builtin.Slice.slicePlaces ((n : Int) - 1) (-1) (-1) = n := by
  unfold Builtin.Slice.slicePlaces
  rw [if_neg (show ¬ ((-1 : Int) > 0) by omega)]
  by_cases h : (n : Int) - 1 > -1
  · rw [if_pos h]
    have e : -(-1 : Int) = 1 := rfl
    rw [e, Int.ediv_one]
    omega
  · rw [if_neg h]
    omega
theorem pick_rev (xs : Array Value) : ((List.range xs.size).filterMap fun (m : Nat) => xs[(((xs.size : Int) - 1) + (m : Int) * -1).toNat]?).toArray = xs.toList.reverse.toArray := by
  have e : (fun (m : Nat) => xs[(((xs.size : Int) - 1) + (m : Int) * -1).toNat]?) = fun m => xs[xs.size - 1 - m]? := by
    funext m
    by_cases h : xs.size = 0
    · have : xs = #[] := Array.eq_empty_of_size_eq_zero h
      subst this
      rfl
    · by_cases h2 : m ≤ xs.size - 1
      · have : (((xs.size : Int) - 1) + (m : Int) * -1).toNat = xs.size - 1 - m := by omega
        rw [this]
      · have e1 : (((xs.size : Int) - 1) + (m : Int) * -1).toNat = 0 := by omega
        have e2 : xs.size - 1 - m = 0 := by omega
        rw [e1, e2]
  rw [e]
  have h := PySem.W.krv_all xs
  have e3 : (fun m => xs[xs.size - 1 - m]?) = (fun i => xs[i]?) ∘ fun m => xs.size - 1 - m := rfl
  rw [e3, ← List.filterMap_map, PySem.W.krv_range, List.filterMap_reverse, h]
theorem getItem_tuple_rev {t sl : Addr} {items : Array Value} {u : Tok} {Q : Value → Shared → Prop} (ht : IsTup s.heap t items) (hs : s.heap.IsSliceOf sl .none .none (.int (-1) u))
    (h : Q (.ref s.heap.objs.size) { s with heap := s.heap.push { cls := .type "tuple", data := .seq items.toList.reverse.toArray } })
    (hsz : items.size ≤ sizeLine) : wpAny (model prog w) A (getItem (.ref t) (.ref sl)) Q E s := by
  have htake : sizeOk (.seq items.toList.reverse.toArray) := by
    show items.toList.reverse.toArray.size ≤ sizeLine
    rw [List.size_toArray, List.length_reverse, Array.length_toList]
    exact hsz
  obtain ⟨os, hos, hcs, hds⟩ := id hs
  have hTs : s.TypeIs (.ref sl) "slice" := ⟨os, hos, hcs⟩
  unfold getItem
  try with_reducible refine wpAny_holding ?_
  first | refine wpAny_bind (wpAny_pure ?_) | skip
  refine wpAny_bind (wpAny_sequenceKey ht.typeIs (by decide) ?_)
  refine wpAny_bind (wpAny_callSpecial?_slot (name := Str.ofString "__getitem__") ht.typeIs PyProof.Rows.slot_tuple_getitem
    (wpAny_call_entry PyProof.Rows.slot_tuple_getitem ht.typeIs entry_tuple_getitem ?_ (args_tuple_getitem _ _)))
  show wpAny _ _ (Builtin.Tuple.tupleItemsOf (.ref t) >>= _) _ _ s
  refine wpAny_bind (tupleItemsOf_ ht ?_)
  refine wpAny_bind (wpAny_typeOf hTs ?_)
  rw [if_pos (by decide)]
  have ap : ∀ {A : Around} {E : Value → Shared → Prop} {Q : Int × Int × Nat → Shared → Prop}, Q ((items.size : Int) - 1, -1, items.size) s → wpAny (model prog w) A (Builtin.Slice.sliceApplied (.ref sl) (pure (items.size : Int))) Q E s := fun {A E Q} h => by
    unfold Builtin.Slice.sliceApplied Builtin.Slice.sliceFields
    refine wpAny_bind (wpAny_bind (wpAny_field hos hds (x := .none) rfl (wpAny_bind (wpAny_field hos hds (x := .none) rfl (wpAny_bind (wpAny_field hos hds (x := .int (-1) u) rfl (wpAny_pure ?_)))))))
    refine wpAny_bind (slicePart_int ?_)
    show wpAny _ _ (if ((-1 : Int) == 0) = true then _ else _) _ _ s
    rw [if_neg (by decide)]
    refine wpAny_bind (slicePart_none (wpAny_bind (slicePart_none (wpAny_bind (wpAny_pure ?_)))))
    show wpAny _ _ (pure ((items.size : Int) - 1, (-1 : Int), Builtin.Slice.slicePlaces ((items.size : Int) - 1) (-1) (-1))) _ _ s
    rw [places_rev]
    exact wpAny_pure h
  refine wpAny_bind (ap ?_)
  have hno : ¬ (((items.size : Int) - 1 == 0 && (-1 : Int) == 1 && items.size == items.size) = true) := by
    intro q
    rw [Bool.and_eq_true, Bool.and_eq_true] at q
    exact absurd q.1.2 (by decide)
  show wpAny _ _ (if ((items.size : Int) - 1 == 0 && (-1 : Int) == 1 && items.size == items.size) = true then _ else _) _ _ s
  rw [if_neg hno, pick_rev]
  first
    | exact wpAny_bind (m := Builtin.Tuple.tupleExact _) (wpAny_newObj_type (wpAny_pure ⟨_, rfl, wpAny_pure h⟩) htake)
    | exact wpAny_bind (m := Builtin.Tuple.tupleExact _) (wpAny_newObj_type (wpAny_bind (wpAny_pure (wpAny_pure ⟨_, rfl, wpAny_pure h⟩))) htake)
    | exact wpAny_bind (wpAny_bind (m := Builtin.Tuple.tupleExact _) (wpAny_newObj_type (wpAny_pure (wpAny_pure ⟨_, rfl, wpAny_pure h⟩)) htake))
    | exact wpAny_bind (wpAny_bind (m := Builtin.Tuple.tupleExact _) (wpAny_newObj_type (wpAny_pure ⟨_, rfl, wpAny_pure h⟩) htake))
end
section
variable {X : Cx} {C : Cn} {T : Tb} {O : Orc} {k : Nat} {pos p apos : Pos} {a b e1 : Expr} {es : List Expr} {sa : Sm} {ms : List Sm} {x : Str}
theorem s_rev {kk : Nat} {p1 p2 p3 : Pos} (G : Gd X C T O k) (ha : PE X a (tV C sa.v)) : PE X (.Subscript a (.Slice none none (some (.UnaryOp .USub (.Constant (.int 1) kk p1) p2)) p3) pos) (tV C (revS sa.v)) := by
  refine ⟨fun pins s σ H Q I h => ?_⟩
  obtain ⟨ρ, en, h0, d, h', sr, hr, e, q⟩ := h
  have key : ∃ y h1, sa.v en h0 = some (y, h1) ∧ h1 = h' ∧ ((∃ xs, y = .lst xs ∧ d = .lst xs.reverse) ∨ ∃ xs, y = .tup xs ∧ d = .tup xs.reverse) := by
    unfold revS at e
    split at e
    · rename_i xs h1 hx; cases e; exact ⟨_, _, hx, rfl, .inl ⟨xs, rfl, rfl⟩⟩
    · rename_i xs h1 hx; cases e; exact ⟨_, _, hx, rfl, .inr ⟨xs, rfl, rfl⟩⟩
    · cases e
  obtain ⟨y, h1, hy, eh, hyd⟩ := key
  have hrun := ha.run pins s σ H (fun v H1 => ∃ ρ1, Ext ρ H ρ1 H1 ∧ HR C ρ1 H1 h' ∧ RD C ρ1 H1 y v) I ⟨ρ, en, h0, y, h1, sr, hr, hy, fun ρ1 H1 v x1 hr1 rv => ⟨ρ1, x1, by rw [← eh]; exact hr1, rv⟩⟩
  refine Subscript_ (thn hrun fun v s1 ⟨x, H1, I1, r1, ρ1, x1, hr1, rv⟩ => ?_)
  have hst : PO X (some (.UnaryOp .USub (.Constant (.int 1) kk p1) p2)) (tPart (tUn (rU fun i => .int (-i)) (tC (.int 1)))) := po_some (pe_un un_neg pe_int)
  refine wpAny_Slice (thn (po_none.run pins s1 σ H1 (fun o H2 => o = none ∧ H2 = H1) I1 ⟨rfl, rfl⟩) fun vl s2 ⟨l, H2, I2, pl, el, e2⟩ => ?_)
  subst el e2
  refine thn (po_none.run pins s2 σ H2 (fun o H3 => o = none ∧ H3 = H2) I2 ⟨rfl, rfl⟩) fun vu s3 ⟨u, H3, I3, pu, eu, e3⟩ => ?_
  subst eu e3
  refine thn (hst.run pins s3 σ H3 (fun o H4 => o = some (-1) ∧ H4 = H3) I3 ⟨1, rfl, -1, rfl, rfl, rfl⟩) fun vs s4 ⟨o, H4, I4, ps, eo, e4⟩ => ?_
  subst eo e4
  have I5 : Inv X pins σ H4 { s4 with heap := s4.heap.push { cls := .type "slice", data := .fields #[vl, vu, vs] } } := I4.kept (t' := s4.toks) fun b ob q => Heap.get?_push_of_some _ q
  rcases hyd with ⟨xs, rfl, rfl⟩ | ⟨xs, rfl, rfl⟩
  · obtain ⟨ad, ws, rfl, hx, rs⟩ := lst_at hr1 rfl rv
    cases r1
    obtain ⟨its, r, ht, hz⟩ := I5.list (.inl (.inl hx))
    have hlen := r.length
    show wpAny (model X.prog X.w) X.A (subscriptTail a (.Slice none none (some (.UnaryOp .USub (.Constant (.int 1) kk p1) p2)) p3) (.ref ad) (.ref s4.heap.objs.size)) (EP X pins σ Q) X.xe { s4 with heap := s4.heap.push { cls := .type "slice", data := .fields #[vl, vu, vs] } }
    refine tail_any (ops := [.ref ad, .ref s4.heap.objs.size]) ht.isList.typeIs (PySem.slot_list_getitem.lookup) ?_ (by with_unfolding_all rfl)
    refine wpAny_getItem_list_slice ht.isList (Heap.IsSliceOf.new _ vl vu vs) pl pu ps (by decide) ?_ (by rw [List.size_toArray]; omega)
    rw [PySem.W.krv_pick]
    have hn := I5.hok.fresh (Nat.le_refl _)
    refine ⟨.ref _, _, I5.laid (t' := s4.toks) (o := .lst ws.reverse) (fun b ob q => Heap.get?_push_of_some _ q) (Nat.le_refl _) ?_, rfl, Ans.newL (xs := xs.reverse) (fun ρ2 H2 v2 x2 hr2 rv2 => q ρ2 H2 v2 (x1.trans x2) hr2 rv2) hr1 rs.rev hn⟩
    exact ⟨by rw [List.length_reverse]; exact hz, _, 0, r.reverse, Heap.get?_push_size _ rfl⟩
  · obtain ⟨ad, ws, rfl, hx, rs⟩ := tup_at rv
    cases r1
    rw [← G.K] at hx
    obtain ⟨its, r, ht, hz⟩ := I5.tuple hx
    have hlen := r.length
    cases pl
    cases pu
    cases ps
    show wpAny (model X.prog X.w) X.A (subscriptTail a (.Slice none none (some (.UnaryOp .USub (.Constant (.int 1) kk p1) p2)) p3) (.ref ad) (.ref s4.heap.objs.size)) (EP X pins σ Q) X.xe _
    refine tail_any (ops := [.ref ad, .ref s4.heap.objs.size]) ht.typeIs (PyProof.Rows.slot_tuple_getitem.lookup) ?_ (by with_unfolding_all rfl)
    refine getItem_tuple_rev ht (Heap.IsSliceOf.new _ _ _ _) ?_ (by rw [List.size_toArray]; omega)
    have hn := I5.hok.fresh (Nat.le_refl _)
    refine ⟨.ref _, _, I5.laid (t' := s4.toks) (o := .tup ws.reverse) (fun b ob q => Heap.get?_push_of_some _ q) (Nat.le_refl _) ?_, rfl, Ans.newT (xs := xs.reverse) (fun ρ2 H2 v2 x2 hr2 rv2 => q ρ2 H2 v2 (x1.trans x2) hr2 rv2) hr1 rs.rev hn⟩
    exact ⟨by rw [List.length_reverse]; exact hz, its.reverse, r.reverse, _, Heap.get?_push_size _ rfl, rfl, _, rfl⟩
end
end EV

set_option Elab.async false
set_option linter.all false
set_option maxRecDepth 100000
set_option maxHeartbeats 4000000
namespace EV
open PySem PySem.Spec PyProof.Rows L2
/-! ### dict displays -/
def trsP (C : Cn) : List Sm → List Sm → List (TE × TE)
  | k :: ks, v :: vs => (tV C k.v, tV C v.v) :: trsP C ks vs
  | _, _ => []
theorem trs_ {C : Cn} : ∀ {ks vs : List Sm} {ρ : Rho} {σ : L2.St} {H : Hp} {en : En} {h : MH} {kd vd : List D} {h' : MH} {Q : List (V × V) → Hp → Prop}, SR C ρ H σ en → HR C ρ H h → evp ks vs en h = some (kd, vd, h') →
    (∀ ρ' H' xs ys, Ext ρ H ρ' H' → HR C ρ' H' h' → RDs C ρ' H' kd xs → RDs C ρ' H' vd ys → Q (xs.zip ys) H') → tPairs (trsP C ks vs) σ H Q
  | [], [], ρ, σ, H, en, h, kd, vd, h', Q, sr, hr, e, q => by
    cases e
    exact q ρ H [] [] (Ext.refl _ _) hr .nil .nil
  | k :: ks, v :: vs, ρ, σ, H, en, h, kd, vd, h', Q, sr, hr, e, q => by
    unfold evp at e
    split at e
    · rename_i a h1 ha
      split at e
      · rename_i b h2 hb
        split at e
        · rename_i as bs h3 hs
          cases e
          show tV C k.v σ H fun x H1 => tV C v.v σ H1 fun y H2 => tPairs (trsP C ks vs) σ H2 fun ps H3 => Q ((x, y) :: ps) H3
          exact ⟨ρ, en, h, a, h1, sr, hr, ha, fun ρ1 H1 x x1 hr1 rx => ⟨ρ1, en, h1, b, h2, sr.mono x1, hr1, hb, fun ρ2 H2 y x2 hr2 ry => trs_ (sr.mono (x1.trans x2)) hr2 hs fun ρ3 H3 xs ys x3 hr3 rxs rys =>
            q ρ3 H3 (x :: xs) (y :: ys) ((x1.trans x2).trans x3) hr3 (.cons (rx.mono (x2.trans x3)) rxs) (.cons (ry.mono x3) rys)⟩⟩
        · cases e
      · cases e
    · cases e
  | [], _ :: _, _, _, _, _, _, _, _, _, _, _, _, e, _ => by cases e
  | _ :: _, [], _, _, _, _, _, _, _, _, _, _, _, e, _ => by cases e
theorem evp_len : ∀ {ks vs : List Sm} {en : En} {h : MH} {kd vd : List D} {h' : MH}, evp ks vs en h = some (kd, vd, h') → kd.length = vd.length
  | [], [], _, _, _, _, _, e => by cases e; rfl
  | k :: ks, v :: vs, en, h, kd, vd, h', e => by
    unfold evp at e
    split at e
    · split at e
      · split at e
        · rename_i hs
          cases e
          rw [List.length_cons, List.length_cons, evp_len hs]
        · cases e
      · cases e
    · cases e
  | [], _ :: _, _, _, _, _, _, e => by cases e
  | _ :: _, [], _, _, _, _, _, e => by cases e
theorem zip_kV : ∀ (kk : List Key) (ys : List V), (kk.map kV).zip ys = (kk.zip ys).map fun kv => (kV kv.1, kv.2)
  | [], _ => rfl
  | _ :: _, [] => rfl
  | a :: kk, b :: ys => by
    show (kV a, b) :: (kk.map kV).zip ys = _
    rw [zip_kV kk ys]
    rfl
theorem key_kvs {C : Cn} {ρ : Rho} {H : Hp} : ∀ {kd : List D} {xs : List V}, kd.all keyD = true → RDs C ρ H kd xs → ∃ ks : List Key, kd.map keyV = ks.map some ∧ xs = ks.map kV
  | [], _, _, .nil => ⟨[], rfl, rfl⟩
  | d :: kd, _, h, .cons r rs => by
    rw [List.all_cons, Bool.and_eq_true] at h
    obtain ⟨ks, e1, e2⟩ := key_kvs h.2 rs
    subst e2
    cases r <;> first | (cases h.1; done) | skip
    · rename_i i; exact ⟨.inl i :: ks, by rw [List.map_cons, e1]; rfl, rfl⟩
    · rename_i i _; exact ⟨.inr (mk i) :: ks, by rw [List.map_cons, e1]; rfl, rfl⟩
theorem key_ne : ∀ {d e : D} {k j : Key}, keyV d = some k → keyV e = some j → deq d e = decide (k = j)
  | .int i, .int j, _, _, h1, h2 => by cases h1; cases h2; rw [key_ll]; rfl
  | .str i, .str j, _, _, h1, h2 => by
    cases h1; cases h2
    show (i == j) = _
    rw [Bool.eq_iff_iff]
    simp only [beq_iff_eq, decide_eq_true_eq]
    constructor
    · intro h; rw [h]
    · intro h; exact mk_inj (Sum.inr.inj h)
  | .int i, .str j, _, _, h1, h2 => by cases h1; cases h2; rw [key_lr]; rfl
  | .str i, .int j, _, _, h1, h2 => by cases h1; cases h2; rw [key_rl]; rfl
  | .non, _, _, _, h1, _ => by cases h1
  | .bl _, _, _, _, h1, _ => by cases h1
  | .tup _, _, _, _, h1, _ => by cases h1
  | .lst _, _, _, _, h1, _ => by cases h1
  | .dct _ _, _, _, _, h1, _ => by cases h1
  | .kdc _ _, _, _, _, h1, _ => by cases h1
  | .cls _, _, _, _, h1, _ => by cases h1
  | .scr _, _, _, _, h1, _ => by cases h1
  | .adr _, _, _, _, h1, _ => by cases h1
  | .obj _ _, _, _, _, h1, _ => by cases h1
  | .rep _, _, _, _, h1, _ => by cases h1
  | .int _, .non, _, _, _, h1 => by cases h1
  | .int _, .bl _, _, _, _, h1 => by cases h1
  | .int _, .tup _, _, _, _, h1 => by cases h1
  | .int _, .lst _, _, _, _, h1 => by cases h1
  | .int _, .dct _ _, _, _, _, h1 => by cases h1
  | .int _, .kdc _ _, _, _, _, h1 => by cases h1
  | .int _, .cls _, _, _, _, h1 => by cases h1
  | .int _, .scr _, _, _, _, h1 => by cases h1
  | .int _, .adr _, _, _, _, h1 => by cases h1
  | .int _, .obj _ _, _, _, _, h1 => by cases h1
  | .int _, .rep _, _, _, _, h1 => by cases h1
  | .str _, .non, _, _, _, h1 => by cases h1
  | .str _, .bl _, _, _, _, h1 => by cases h1
  | .str _, .tup _, _, _, _, h1 => by cases h1
  | .str _, .lst _, _, _, _, h1 => by cases h1
  | .str _, .dct _ _, _, _, _, h1 => by cases h1
  | .str _, .kdc _ _, _, _, _, h1 => by cases h1
  | .str _, .cls _, _, _, _, h1 => by cases h1
  | .str _, .scr _, _, _, _, h1 => by cases h1
  | .str _, .adr _, _, _, _, h1 => by cases h1
  | .str _, .obj _ _, _, _, _, h1 => by cases h1
  | .str _, .rep _, _, _, _, h1 => by cases h1
theorem merge_new : ∀ {more acc : List (Key × V)}, (∀ p ∈ more, ∀ q ∈ acc, q.1 ≠ p.1) → (more.map (·.1)).Nodup → mergeK acc more = acc ++ more
  | [], acc, _, _ => by rw [List.append_nil]; rfl
  | p :: more, acc, h, nd => by
    rw [List.map_cons, List.nodup_cons] at nd
    show mergeK (putK acc p.1 p.2) more = _
    have e : putK acc p.1 p.2 = acc ++ [p] := by
      unfold putK
      rw [if_neg]
      rw [List.any_eq_true]
      rintro ⟨q, hq, e⟩
      exact h p List.mem_cons_self q hq (of_decide_eq_true e)
    rw [e, merge_new (fun p' hp' q hq => ?_) nd.2, List.append_assoc]
    · rfl
    · rcases List.mem_append.mp hq with hq | hq
      · exact h p' (List.mem_cons_of_mem _ hp') q hq
      · have : q = p := by simpa using hq
        subst this
        intro z
        exact nd.1 (List.mem_map.mpr ⟨p', hp', z.symm⟩)
theorem distinct_nodup : ∀ {kd : List D} {ks : List Key}, kd.map keyV = ks.map some → distinct kd = true → ks.Nodup
  | [], [], _, _ => List.nodup_nil
  | d :: kd, k :: ks, e, h => by
    injection e with e1 e2
    have h2 := Bool.and_eq_true_iff.mp h
    rw [List.nodup_cons]
    refine ⟨fun hm => ?_, distinct_nodup e2 h2.2⟩
    have h3 := h2.1
    rw [Bool.not_eq_true', Bool.eq_false_iff] at h3
    refine h3 (List.any_eq_true.mpr ?_)
    obtain ⟨i, hi⟩ := List.mem_iff_getElem?.mp hm
    have h4 : (kd.map keyV)[i]? = some (some k) := by rw [e2, List.getElem?_map, hi]; rfl
    rw [List.getElem?_map] at h4
    obtain ⟨z, hz, ez⟩ := Option.map_eq_some_iff.mp h4
    refine ⟨z, List.mem_of_getElem? hz, ?_⟩
    rw [key_ne ez e1]
    exact decide_eq_true rfl
  | [], _ :: _, e, _ => by cases e
  | _ :: _, [], e, _ => by cases e
section
variable {X : Cx} {C : Cn} {T : Tb} {O : Orc} {k : Nat} {pos p apos : Pos} {a b e1 : Expr} {es : List Expr} {sa : Sm} {ms : List Sm} {x : Str}
/-- a list that was gathered is done -/
theorem ans_lst {ρ ρ' : Rho} {H H' : Hp} {h h' : MH} {Q : VK} {fz : Bool} {xs : List D} {ys : List V} {p : Addr} {o : HO} (q : Ans C ρ H (EV.newL fz xs h').2 (EV.newL fz xs h').1 Q) (hr : HR C ρ H h) (hp : H p = none)
    (x : Exw (fun a => a = p) (hide ρ p) (upd H p o) ρ' H') (hr' : HR C ρ' H' h') (hl : H' p = some (.lst ys)) (rs : RDs C ρ' H' xs ys) : Q (.ref p) H' := by
  have hn : ∀ a, ρ'.hid a ↔ a = p ∨ ρ.hid a := fun a => by rw [x.hid]; exact Iff.rfl
  cases fz with
  | true => exact q _ _ _ (Exw.show_ hp x) (HR.show_ hp x hr') (.lst hl (off_show hp hr x) (rs.tr (Tr.show_ hn)))
  | false => exact q _ _ _ (Exw.out hr hp x hr') (HR.out hr hp x hr' hl ⟨ys, rfl, rs⟩) (.adr (show (if h'.length = h'.length then some p else (EV.show_ ρ ρ') h'.length) = some p from if_pos rfl))
theorem ans_dct {ρ ρ' : Rho} {H H' : Hp} {h h' : MH} {Q : VK} {fz : Bool} {kd vd : List D} {kvs : List (Key × V)} {p : Addr} {o : HO} (q : Ans C ρ H (EV.newT fz kd vd h').2 (EV.newT fz kd vd h').1 Q) (hr : HR C ρ H h) (hp : H p = none)
    (x : Exw (fun a => a = p) (hide ρ p) (upd H p o) ρ' H') (hr' : HR C ρ' H' h') (hl : H' p = some (.dK kvs)) (hk : kd.map keyV = kvs.map fun q => some q.1) (rs : RDs C ρ' H' vd (kvs.map (·.2))) : Q (.ref p) H' := by
  have hn : ∀ a, ρ'.hid a ↔ a = p ∨ ρ.hid a := fun a => by rw [x.hid]; exact Iff.rfl
  cases fz with
  | true => exact q _ _ _ (Exw.show_ hp x) (HR.show_ hp x hr') (.dct hl (off_show hp hr x) hk (rs.tr (Tr.show_ hn)))
  | false => exact q _ _ _ (Exw.out hr hp x hr') (HR.out hr hp x hr' hl ⟨kvs, rfl, hk, rs⟩) (.adr (show (if h'.length = h'.length then some p else (EV.show_ ρ ρ') h'.length) = some p from if_pos rfl))
theorem s_disp {fz : Bool} {ks vs : List Sm} {keys : List (Option Expr)} {values : List Expr} (hp : PPs X pos keys values (trsP C ks vs)) (hall : keys.all (·.isSome) = true) (hl : keys.length = values.length) (h0 : keys ≠ []) (h15 : keys.length ≤ 15) :
    PE X (.Dict keys values pos) (tV C (disp fz ks vs)) := by
  refine (pe_disp hp hall hl h0 h15).imp fun σ H Q ⟨ρ, en, h, d, h', sr, hr, e, q⟩ => ?_
  unfold disp at e
  split at e
  · rename_i kd vd h1 hkv
    split at e
    · rename_i hc
      simp only [Bool.and_eq_true, decide_eq_true_eq] at hc
      obtain ⟨⟨hk, hdis⟩, hlen⟩ := hc
      have e2 : newT fz kd vd h1 = (d, h') := Option.some.inj e
      intro p hpn
      refine trs_ (sr.tr (Tr.hide (o := .dK []) hpn)) (hr.hide hpn) hkv fun ρ1 H1 xs ys x1 hr1 rk rv => ?_
      have hid : ρ1.hid p := by rw [x1.hid]; exact .inl rfl
      obtain ⟨kk, ek, exs⟩ := key_kvs hk rk
      subst exs
      have lk : kd.length = kk.length := by have := congrArg List.length ek; simpa using this
      have lv : kk.length = ys.length := by
        have h1 := evp_len hkv
        rw [← rv.len, ← h1, lk]
      have nd := distinct_nodup ek hdis
      have hz : mergeK [] (kk.zip ys) = kk.zip ys := by
        rw [merge_new (fun p _ q hq => by cases hq) (by rw [List.map_fst_zip (by omega)]; exact nd), List.nil_append]
      refine ⟨?_, kk.zip ys, ?_, ?_, ?_⟩
      · exact x1.keep p _ upd_same (fun n => (hr.hide (o := .dK []) hpn).dis n p |> fun f e => f e (.inl rfl)) id
      · exact zip_kV kk ys
      · rw [List.length_zip]; omega
      · rw [hz]
        have q1 : Ans C ρ H (EV.newT fz kd vd h1).2 (EV.newT fz kd vd h1).1 Q := by rw [e2]; exact q
        refine ans_dct (kvs := kk.zip ys) q1 hr hpn ((Exw.weak x1).trans Exw.grow) (hr1.grow hid) upd_same ?_ ?_
        · rw [ek, show (fun q : Key × V => some q.1) = some ∘ Prod.fst from rfl, ← List.map_map, List.map_fst_zip (by omega)]
        · rw [List.map_snd_zip (by omega)]
          exact rv.tr (Tr.grow hid)
    · cases e
  · cases e
end
end EV

set_option Elab.async false
set_option linter.all false
set_option maxRecDepth 100000
set_option maxHeartbeats 4000000
namespace EV
open PySem PySem.Spec PyProof.Rows L2
/-! ### targets -/
def setV : List Nat → List V → L2.St → L2.St
  | i :: is, v :: vs, σ => setV is vs (σ.set i (some v))
  | _, _, σ => σ
theorem wipe_get {σ : L2.St} {j : Nat} : ∀ {vs : List Nat}, (L2.wipe σ vs)[j]? = if j ∈ vs then (σ[j]?).map (fun _ => (none : Option V)) else σ[j]?
  | [] => by rw [if_neg (by simp)]; rfl
  | v :: vs => by
    unfold L2.wipe
    by_cases h : v = j
    · subst h
      rw [if_pos List.mem_cons_self]
      by_cases hl : v < (L2.wipe σ vs).length
      · rw [List.getElem?_set_self hl]
        rw [L2.wipe_length] at hl
        rw [List.getElem?_eq_getElem hl]
        rfl
      · have hl2 := hl
        rw [L2.wipe_length] at hl2
        rw [List.getElem?_eq_none (by simpa using hl), List.getElem?_eq_none (by omega)]
        rfl
    · rw [List.getElem?_set_ne h, wipe_get]
      by_cases h2 : j ∈ vs
      · rw [if_pos h2, if_pos (List.mem_cons_of_mem _ h2)]
      · rw [if_neg h2, if_neg]
        intro z
        rcases List.mem_cons.mp z with z | z
        · exact h z.symm
        · exact h2 z
theorem setV_out {j : Nat} : ∀ {is : List Nat} {vs : List V} {σ : L2.St}, j ∉ is → (setV is vs σ)[j]? = σ[j]?
  | [], _, _, _ => rfl
  | _ :: _, [], _, _ => rfl
  | i :: is, v :: vs, σ, h => by
    show (setV is vs (σ.set i (some v)))[j]? = _
    rw [setV_out (fun z => h (List.mem_cons_of_mem _ z)), List.getElem?_set_ne]
    intro e
    exact h (by rw [e]; exact List.mem_cons_self)
theorem setV_len : ∀ {is : List Nat} {vs : List V} {σ : L2.St}, (setV is vs σ).length = σ.length
  | [], _, _ => rfl
  | _ :: _, [], _ => rfl
  | i :: is, v :: vs, σ => by
    show (setV is vs (σ.set i (some v))).length = _
    rw [setV_len, List.length_set]
theorem wipe_setV {is : List Nat} {vs : List V} {σ : L2.St} : L2.wipe (setV is vs σ) is = L2.wipe σ is := by
  apply List.ext_getElem?
  intro j
  rw [wipe_get, wipe_get]
  by_cases h : j ∈ is
  · rw [if_pos h, if_pos h]
    have hl := setV_len (is := is) (vs := vs) (σ := σ)
    by_cases hj : j < σ.length
    · rw [List.getElem?_eq_getElem hj, List.getElem?_eq_getElem (by omega)]
      rfl
    · rw [List.getElem?_eq_none (by omega), List.getElem?_eq_none (by omega)]
  · rw [if_neg h, if_neg h, setV_out h]
section
variable {C : Cn} {ρ : Rho} {H : Hp}
theorem wipeE_get {σ : En} {j : Nat} {d : D} : ∀ {vs : List Nat}, (wipeE σ vs)[j]? = some (some d) → j ∉ vs ∧ σ[j]? = some (some d)
  | [], h => ⟨by simp, h⟩
  | v :: vs, h => by
    unfold wipeE at h
    by_cases e : v = j
    · subst e
      by_cases hl : v < (wipeE σ vs).length
      · rw [List.getElem?_set_self hl] at h; cases h
      · rw [List.getElem?_eq_none (by simpa using hl)] at h; cases h
    · rw [List.getElem?_set_ne e] at h
      obtain ⟨h1, h2⟩ := wipeE_get h
      refine ⟨fun z => ?_, h2⟩
      rcases List.mem_cons.mp z with z | z
      · exact e z.symm
      · exact h1 z
theorem wipeE_len (σ : En) : ∀ vs : List Nat, (wipeE σ vs).length = σ.length
  | [] => rfl
  | v :: vs => by unfold wipeE; rw [List.length_set, wipeE_len σ vs]
theorem SR.wipe {σ : L2.St} {en : En} (h : SR C ρ H σ en) (vs : List Nat) : SR C ρ H (L2.wipe σ vs) (wipeE en vs) := by
  refine ⟨by rw [L2.wipe_length, wipeE_len]; exact h.len, fun i d e => ?_⟩
  obtain ⟨h1, h2⟩ := wipeE_get e
  obtain ⟨v, h3, h4⟩ := h.get i d h2
  exact ⟨v, by rw [wipe_get, if_neg h1]; exact h3, h4⟩
theorem SR.setAll : ∀ {is : List Nat} {xs : List D} {vs : List V} {σ : L2.St} {en en' : En}, SR C ρ H σ en → RDs C ρ H xs vs → EV.setAll is xs en = some en' → SR C ρ H (setV is vs σ) en' ∧ vs.length = is.length
  | [], [], _, _, _, _, s, .nil, e => by cases e; exact ⟨s, rfl⟩
  | i :: is, x :: xs, _, σ, en, en', s, .cons r rs, e => by
    obtain ⟨h1, h2⟩ := SR.setAll (is := is) (xs := xs) (s.put r) rs e
    exact ⟨h1, by simp [h2]⟩
  | [], _ :: _, _, _, _, _, _, _, e => by cases e
  | _ :: _, [], _, _, _, _, _, _, e => by cases e
end
def tG (C : Cn) (mg : MG) : TG := fun v σ H Q => ∃ ρ en h d en', SR C ρ H σ en ∧ HR C ρ H h ∧ RD C ρ H d v ∧ takeG mg d h en = some en' ∧ ∀ vs, SR C ρ H (setV (slotsG mg) vs σ) en' → Q (setV (slotsG mg) vs σ) H
/-- names at their slots -/
inductive NmS (X : Cx) : List Expr → List Nat → Prop
  | nil : NmS X [] []
  | cons {x : Str} {p : Pos} {i : Nat} {es : List Expr} {is : List Nat} : (X.N[i]? = some x ∧ Loc X.env.scope x ∧ (X.fn x = true ∨ X.env.scope.names.lookup x = some .local)) → NmS X es is → NmS X (.Name x p :: es) (i :: is)
def gNms : List Nat → TGs
  | [] => gNil
  | i :: is => gCons (gName i) (gNms is)
section
variable {X : Cx} {C : Cn} {T : Tb} {O : Orc} {k : Nat} {pos p apos : Pos} {a b e1 : Expr} {es : List Expr} {sa : Sm} {ms : List Sm} {x : Str}
theorem NmS.pgs (nd : X.N.Nodup) : ∀ {es : List Expr} {is : List Nat}, NmS X es is → PGs X es (gNms is)
  | _, _, .nil => pgs_nil
  | _, _, .cons h r => pgs_cons (pg_name nd h.1 h.2.1 h.2.2) (NmS.pgs nd r) rfl
theorem NmS.look : ∀ {es : List Expr} {is : List Nat}, NmS X es is → (assignEach es X.env).length = is.length ∧ (assignEach es X.env).findIdx? (·.1) = none
  | _, _, .nil => ⟨rfl, rfl⟩
  | _, _, @NmS.cons _ x p i es is h r => by
    obtain ⟨h1, h2⟩ := NmS.look r
    refine ⟨?_, ?_⟩
    · show ((false, assign (.Name x p) X.env) :: assignEach es X.env).length = _
      rw [List.length_cons, List.length_cons, h1]
    · show ((false, assign (.Name x p) X.env) :: assignEach es X.env).findIdx? (·.1) = none
      rw [List.findIdx?_cons, h2]
      rfl
theorem gNms_ok {H : Hp} {Q : L2.St → Hp → Prop} : ∀ {is : List Nat} {vs : List V} {σ : L2.St}, vs.length = is.length → Q (setV is vs σ) H → gNms is vs σ H Q
  | [], [], _, _, q => ⟨rfl, q⟩
  | i :: is, v :: vs, σ, h, q => ⟨v, vs, rfl, gNms_ok (is := is) (by simpa using h) q⟩
  | [], _ :: _, _, h, _ => by cases h
  | _ :: _, [], _, h, _ => by cases h
theorem s_tgN {i : Nat} (nd : X.N.Nodup) (h : X.N[i]? = some x ∧ Loc X.env.scope x ∧ (X.fn x = true ∨ X.env.scope.names.lookup x = some .local)) : PG X (.Name x p) (tG C (.nm i)) := by
  refine ⟨fun pins s σ H v u Q I r ⟨ρ, en, h0, d, en', sr, hr, rd, ht, q⟩ => ?_⟩
  refine (pg_name nd h.1 h.2.1 h.2.2).run pins s σ H v u Q I r ?_
  have e : some (en.set i (some d)) = some en' := ht
  cases e
  exact q [v] (sr.put rd)
theorem s_tgT {is : List Nat} {kk : Nat} (G : Gd X C T O k) (nd : X.N.Nodup) (h : NmS X es is) : PG X (.Tuple es kk p) (tG C (.tp is)) := by
  refine ⟨fun pins s σ H v u Q I r ⟨ρ, en, h0, d, en', sr, hr, rd, ht, q⟩ => ?_⟩
  change (match seqD h0 d with
    | some xs => if xs.length = is.length then setAll is xs en else none
    | none => none) = some en' at ht
  split at ht
  · rename_i xs hx
    split at ht
    · rename_i hl
      obtain ⟨ad, vs, rfl, hs, rs⟩ := seq_at hr hx rd
      obtain ⟨s1, s2⟩ := SR.setAll sr rs ht
      obtain ⟨k1, k2⟩ := h.look
      have hw := gNms_ok (H := H) (Q := Q) (σ := σ) s2 (q vs s1)
      rw [← G.K] at hs
      rcases hs with hs | hs
      · exact (pg_lst (n := is.length) G.calm (h.pgs nd) k1 k2).run pins s σ H _ u Q I r ⟨ad, vs, rfl, hs, s2, hw⟩
      · exact (pg_tup (n := is.length) G.calm (h.pgs nd) k1 k2).run pins s σ H _ u Q I r ⟨ad, vs, rfl, hs, s2, hw⟩
    · cases ht
  · cases ht
/-! ### what is walked -/
def Walk (C : Cn) (ρ : Rho) (H : Hp) (J : It) (ds : List D) : Prop := ∀ ρ' H', Tr ρ H ρ' H' → (∀ i d, ds[i]? = some d → J.go i H' ∧ ∀ x H2, J.yld i H' x H2 → ∀ h, HR C ρ' H' h → Ext ρ' H' ρ' H2 ∧ HR C ρ' H2 h ∧ RD C ρ' H2 d x) ∧ J.stop ds.length H'
def tI (C : Cn) (w : En → MH → Option (List D × MH)) : TI := fun σ H R => ∃ ρ en h ds h', SR C ρ H σ en ∧ HR C ρ H h ∧ w en h = some (ds, h') ∧ ∀ ρ' H' J, Ext ρ H ρ' H' → HR C ρ' H' h' → Walk C ρ' H' J ds → R J H'
theorem SqL.tr {K : PySem.W.Frag} {ρ ρ' : Rho} {H H' : Hp} {ad : Addr} {vs : List V} (t : Tr ρ H ρ' H') (o : Off ρ ad) (h : Rd H ad (.lst vs)) : SqL K H' ad vs := by
  rcases h with h | ⟨ob, h⟩
  · exact .inl (.inl (t.keep _ _ h o))
  · exact .inl (.inr ⟨ob, t.keep _ _ h o⟩)
theorem SqT.tr {K : PySem.W.Frag} {ρ ρ' : Rho} {H H' : Hp} {ad : Addr} {vs : List V} (t : Tr ρ H ρ' H') (o : Off ρ ad) (h : Rd H ad (.tup vs)) : SqT K H' ad vs := by
  rcases h with h | ⟨ob, h⟩
  · exact .inl (.inl (t.keep _ _ h o))
  · exact .inl (.inr ⟨ob, t.keep _ _ h o⟩)
theorem walk_L {K : PySem.W.Frag} {ρ : Rho} {H : Hp} {ad : Addr} {vs : List V} {ds : List D} (hq : ∀ ρ' H', Tr ρ H ρ' H' → SqL K H' ad vs) (rs : RDs C ρ H ds vs) : Walk C ρ H (Itl K ad) ds := by
  intro ρ' H' t
  have h1 := hq ρ' H' t
  refine ⟨fun i d e => ?_, ⟨vs, h1, by rw [rs.len]; exact Nat.le_refl _⟩⟩
  obtain ⟨v, e1, e2⟩ := (rs.tr t).get e
  refine ⟨⟨vs, v, h1, e1⟩, fun x H2 ⟨z1, z2⟩ h hr => ?_⟩
  subst z1
  have e3 := z2 vs h1
  rw [e1] at e3
  cases e3
  exact ⟨Ext.refl _ _, hr, e2⟩
theorem walk_T {K : PySem.W.Frag} {ρ : Rho} {H : Hp} {ad : Addr} {vs : List V} {ds : List D} (hq : ∀ ρ' H', Tr ρ H ρ' H' → SqT K H' ad vs) (rs : RDs C ρ H ds vs) : Walk C ρ H (Itt K ad) ds := by
  intro ρ' H' t
  have h1 := hq ρ' H' t
  refine ⟨fun i d e => ?_, ⟨vs, h1, by rw [rs.len]; exact Nat.le_refl _⟩⟩
  obtain ⟨v, e1, e2⟩ := (rs.tr t).get e
  refine ⟨⟨vs, v, h1, e1⟩, fun x H2 ⟨z1, z2⟩ h hr => ?_⟩
  subst z1
  have e3 := z2 vs h1
  rw [e1] at e3
  cases e3
  exact ⟨Ext.refl _ _, hr, e2⟩
theorem walk_S {ρ : Rho} {H : Hp} {s : S} (hs : okS s = true) : Walk C ρ H (Its (mk s)) (s.map fun c => .str [c]) := by
  intro ρ' H' t
  have hsz : (mk s).cps.size = s.length := by simp [mk]
  refine ⟨fun i d e => ?_, show (mk s).cps.size ≤ _ by rw [hsz]; simp⟩
  rw [List.getElem?_map] at e
  obtain ⟨c, e1, rfl⟩ := Option.map_eq_some_iff.mp e
  have hi := (List.getElem?_eq_some_iff.mp e1).1
  refine ⟨show i < (mk s).cps.size by rw [hsz]; exact hi, fun x H2 ⟨z1, c2, z2, z3⟩ h hr => ?_⟩
  subst z1 z3
  have e4 : (mk s).cps[i]? = s[i]? := by simp [mk]
  rw [e4, e1] at z2
  cases z2
  refine ⟨Ext.refl _ _, hr, .str [c] ?_⟩
  unfold okS at hs ⊢
  rw [Bool.and_eq_true, List.all_eq_true] at hs
  have := hs.2 c (List.mem_of_getElem? e1)
  simp only [List.length_singleton, List.all_cons, List.all_nil, Bool.and_true, Bool.and_eq_true]
  exact ⟨rfl, this⟩
theorem ints_rd {ρ : Rho} {H : Hp} : ∀ ns : List Int, RDs C ρ H (ns.map D.int) (ns.map V.int)
  | [] => .nil
  | n :: ns => .cons (.int n) (ints_rd ns)
theorem walk_R {ρ : Rho} {H : Hp} {lo : Int} {n : Nat} : Walk C ρ H (Itr lo n) ((List.range n).map fun (i : Nat) => D.int (lo + i)) := by
  intro ρ' H' t
  refine ⟨fun i d e => ?_, show n ≤ _ by simp⟩
  rw [List.getElem?_map] at e
  obtain ⟨j, e1, rfl⟩ := Option.map_eq_some_iff.mp e
  have hi := (List.getElem?_eq_some_iff.mp e1).1
  rw [List.length_range] at hi
  rw [List.getElem?_range hi] at e1
  cases e1
  refine ⟨hi, fun x H2 ⟨z1, z2⟩ h hr => ?_⟩
  subst z1 z2
  exact ⟨Ext.refl _ _, hr, .int _⟩
theorem s_it {sa : Sm} {tg : Expr} (G : Gd X C T O k) (hp : PE X a (tV C sa.v)) : PI X tg a (tI C (itS sa.v)) := by
  refine ⟨fun pins s σ H R I ⟨ρ, en, h0, ds, h', sr, hr, e, q⟩ => ?_⟩
  unfold itS at e
  split at e
  · rename_i d h1 hd
    obtain ⟨xs, e1, e2⟩ := Option.map_eq_some_iff.mp e
    cases e2
    have hrun := hp.run pins s σ H (fun v H1 => ∃ ρ1, Ext ρ H ρ1 H1 ∧ HR C ρ1 H1 h' ∧ RD C ρ1 H1 d v) I ⟨ρ, en, h0, d, h', sr, hr, hd, fun ρ1 H1 v x1 hr1 rv => ⟨ρ1, x1, hr1, rv⟩⟩
    refine thn hrun fun v s1 ⟨x, H1, I1, r1, ρ1, x1, hr1, rv⟩ => ?_
    have goL : ∀ (ad : Addr) (vs : List V), x = .ref ad → (∀ ρ' H', Tr ρ1 H1 ρ' H' → SqL X.K H' ad vs) → RDs C ρ1 H1 ds vs → wpAny (model X.prog X.w) X.A (pyIter v) (PIE X pins σ tg R) X.xe s1 := fun ad vs ex hq rs => by
      subst ex
      cases r1
      obtain ⟨its, rv', p, hz⟩ := I1.list (hq ρ1 H1 ⟨fun _ _ z => z, fun _ _ z _ => z, fun _ z => z⟩)
      refine wpAny_pyIter_list p.isList ?_
      exact pi_one (tk := s1.toks) I1 _ (turn_list ad _) ⟨_, Heap.get?_push_size _ rfl, rfl, rfl⟩ (q ρ1 H1 _ x1 hr1 (walk_L hq rs))
    have goT : ∀ (ad : Addr) (vs : List V), x = .ref ad → (∀ ρ' H', Tr ρ1 H1 ρ' H' → SqT X.K H' ad vs) → RDs C ρ1 H1 ds vs → wpAny (model X.prog X.w) X.A (pyIter v) (PIE X pins σ tg R) X.xe s1 := fun ad vs ex hq rs => by
      subst ex
      cases r1
      obtain ⟨its, rv', p, hz⟩ := I1.tuple (hq ρ1 H1 ⟨fun _ _ z => z, fun _ _ z _ => z, fun _ z => z⟩)
      refine wpAny_pyIter_tuple (show s1.heap.IsTuple ad its.toArray from p) ?_
      exact pi_one (tk := s1.toks) I1 _ (turn_tuple ad _) ⟨_, Heap.get?_push_size _ rfl, rfl, rfl⟩ (q ρ1 H1 _ x1 hr1 (walk_T hq rs))
    cases rv with
    | str s0 hs =>
      cases e1
      obtain ⟨t, rfl⟩ := r1
      have qq := q ρ1 H1 _ x1 hr1 (walk_S (C := C) (ρ := ρ1) (H := H1) hs)
      cases ha : (mk s0).cps.all (· < 128)
      · exact wpAny_pyIter_wide ha (pi_one (tk := s1.toks) I1 _ (turn_str _ (mk s0) t "str_iterator" (.inr rfl)) ⟨_, Heap.get?_push_size _ rfl, rfl, rfl⟩ qq)
      · exact wpAny_pyIter_ascii ha (pi_one (tk := s1.toks) I1 _ (turn_str _ (mk s0) t "str_ascii_iterator" (.inl rfl)) ⟨_, Heap.get?_push_size _ rfl, rfl, rfl⟩ qq)
    | @tup ad vs _ a1 a2 a3 =>
      cases e1
      exact goT ad vs rfl (fun ρ' H' t => SqT.tr t a2 a1) a3
    | @tupK ad vs _ o its n a1 a2 a3 a4 a5 a6 =>
      cases e1
      exact goT ad vs rfl (fun ρ' H' t => .inr ⟨o, its, n, by rw [G.K]; exact a1, a2, a3, a4, a5⟩) a6
    | @lst ad vs _ a1 a2 a3 =>
      cases e1
      exact goL ad vs rfl (fun ρ' H' t => SqL.tr t a2 (.inl a1)) a3
    | @scr ad o ns a1 a2 =>
      cases e1
      exact goL ad (ns.map V.int) rfl (fun ρ' H' t => SqL.tr t a2 (.inr ⟨o, a1⟩)) (ints_rd ns)
    | @scrK ad ns o its n a1 a2 a3 a4 a5 a6 =>
      cases e1
      exact goL ad (ns.map V.int) rfl (fun ρ' H' t => .inr ⟨o, its, n, by rw [G.K]; exact a1, a2, a3, a4, a5, a6⟩) (ints_rd ns)
    | non => cases e1
    | bl b => cases e1
    | int i => cases e1
    | adr z => cases e1
    | dct z1 z2 z3 z4 => cases e1
    | dctK z1 z2 z3 => cases e1
    | obj z1 z2 z3 z4 => cases e1
    | rep z => cases e1
    | cls z => cases e1
  · cases e
theorem s_rng1 {tg : Expr} {m : ME} {q : Pos} (G : Gd X C T O k) (hg : glB X.env.scope "range" = true) (ha : PE X a (tV C (sem O m).v)) (hn : notStar a = true) : PI X tg (.Call (.Name "range" q) [a] [] pos) (tI C (sem O (.rng1 m)).w) := by
  refine (pi_range1 (gl_of hg).1 (G.free _ (by decide)) (s_cons ha s_nil hn) (star_ok hn)).imp fun σ H R ⟨ρ, en, h, ds, h', sr, hr, e, qq⟩ => ?_
  change (match (sem O m).v en h with
    | some (.int n, h1) => if decide (-(2 ^ 62) ≤ n ∧ n < 2 ^ 62) then some ((List.range n.toNat).map fun (i : Nat) => D.int (0 + i), h1) else none
    | _ => none) = some (ds, h') at e
  split at e
  · rename_i n h1 hx
    split at e
    · rename_i hb
      have hev : evs [sem O m] en h = some ([.int n], h1) := by
        unfold evs
        rw [hx]
        rfl
      cases e
      have hb := of_decide_eq_true hb
      refine ⟨ρ, en, h, _, _, sr, hr, hev, fun ρ1 H1 vs x1 hr1 rvs => ?_⟩
      obtain ⟨v, rfl, r⟩ := rvs.one
      cases r
      exact ⟨n, rfl, hb.1, hb.2, qq ρ1 H1 _ x1 hr1 walk_R⟩
    · cases e
  · cases e
theorem s_rng2 {tg : Expr} {m m2 : ME} {q : Pos} (G : Gd X C T O k) (hg : glB X.env.scope "range" = true) (ha : PE X a (tV C (sem O m).v)) (hb : PE X b (tV C (sem O m2).v)) (hn : notStar a = true) (hn2 : notStar b = true) : PI X tg (.Call (.Name "range" q) [a, b] [] pos) (tI C (sem O (.rng2 m m2)).w) := by
  refine (pi_range2 (gl_of hg).1 (G.free _ (by decide)) (s_cons ha (s_cons hb s_nil hn2) hn) (by rw [star_ok hn, star_ok hn2]; rfl) (star_ok hn2)).imp fun σ H R ⟨ρ, en, h, ds, h', sr, hr, e, qq⟩ => ?_
  change (match (sem O m).v en h with
    | some (.int m, h1) => match (sem O m2).v en h1 with
      | some (.int n, h2) => if decide (-(2 ^ 62) ≤ m ∧ m < 2 ^ 62 ∧ -(2 ^ 62) ≤ n ∧ n < 2 ^ 62) then some ((List.range (n - m).toNat).map fun (i : Nat) => D.int (m + i), h2) else none
      | _ => none
    | _ => none) = some (ds, h') at e
  split at e
  · rename_i n h1 hx
    split at e
    · rename_i n2 h2 hx2
      split at e
      · rename_i hb
        have hev : evs [sem O m, sem O m2] en h = some ([.int n, .int n2], h2) := by
          unfold evs
          rw [hx]
          dsimp only
          unfold evs
          rw [hx2]
          rfl
        cases e
        have hb := of_decide_eq_true hb
        refine ⟨ρ, en, h, _, _, sr, hr, hev, fun ρ1 H1 vs x1 hr1 rvs => ?_⟩
        obtain ⟨v, w, rfl, r, r2⟩ := rvs.two
        cases r
        cases r2
        exact ⟨n, n2, rfl, hb, qq ρ1 H1 _ x1 hr1 walk_R⟩
      · cases e
    · cases e
  · cases e
end
end EV

set_option Elab.async false
set_option linter.all false
set_option maxRecDepth 100000
set_option maxHeartbeats 4000000
namespace EV
open PySem PySem.Spec PyProof.Rows L2
theorem wipe_wipe (σ : L2.St) (vs : List Nat) : L2.wipe (L2.wipe σ vs) vs = L2.wipe σ vs := by
  apply List.ext_getElem?
  intro j
  rw [wipe_get, wipe_get]
  by_cases h : j ∈ vs
  · rw [if_pos h, if_pos h, Option.map_map]; rfl
  · rw [if_neg h, if_neg h]
section
variable {X : Cx} {C : Cn} {T : Tb} {O : Orc} {k : Nat} {pos p apos : Pos} {a b e1 : Expr} {es : List Expr} {sa : Sm} {ms : List Sm} {x : Str}
/-! ### list comprehensions -/
def tTs (C : Cn) (ifs : List Sm) : TT := tB_ C (tests ifs)
theorem s_lcT {mg : MG} {it te : Sm} {ifs : List Sm} {fz : Bool} {tg iter : Expr} {wi : TI} {σ : L2.St} {H : Hp} {Q : VK} (h : tV C (comp fz mg it ifs te) σ H Q) :
    tLc (tI C it.w) (tG C mg) (tTs C ifs) (tV C te.v) (slotsG mg) σ H Q := by
  obtain ⟨ρ, en, h0, d, h', sr, hr, e, q⟩ := h
  unfold comp at e
  split at e
  · rename_i xs h1 hx
    split at e
    · rename_i ys h2 hg
      have e2 : newL fz ys h2 = (d, h') := Option.some.inj e
      refine ⟨ρ, en, h0, xs, h1, sr, hr, hx, fun ρ1 H1 J x1 hr1 ws Dn hD => ?_⟩
      have hr2 := hr1.hide (o := .lst []) hD
      have t2 : Tr ρ1 H1 (hide ρ1 Dn) (upd H1 Dn (.lst [])) := Tr.hide hD
      have sr2 := (sr.mono x1).tr t2
      -- what stands at each turn
      refine ⟨fun i m H => i ≤ xs.length ∧ m = xs.length - i ∧ ∃ ρ' h acc accV, Exw (fun a => a = Dn) (hide ρ1 Dn) (upd H1 Dn (.lst [])) ρ' H ∧ HR C ρ' H h ∧ H Dn = some (.lst accV) ∧ RDs C ρ' H acc accV ∧
        gather (gath mg ifs te (wipeE en (slotsG mg))) (xs.drop i) h acc = some (ys, h2), ⟨xs.length, Nat.zero_le _, rfl, _, h1, [], [], Exw.weak (Ext.refl _ _), hr2, upd_same, .nil, hg⟩, ?_⟩
      rintro i m Hi ⟨hi, rfl, ρi, hhi, acc, accV, xi, hri, hDi, ra, hgi⟩
      have hid : ρi.hid Dn := by rw [xi.hid]; exact .inl rfl
      have ti : Tr (hide ρ1 Dn) (upd H1 Dn (.lst [])) ρi Hi := Exw.tr xi fun a z => by subst z; exact .inl rfl
      obtain ⟨wg, wstop⟩ := ws ρi Hi (t2.trans ti)
      by_cases hlt : i < xs.length
      · refine .inr ?_
        have hxi : xs[i]? = some xs[i] := List.getElem?_eq_getElem hlt
        obtain ⟨go, yld⟩ := wg i xs[i] hxi
        rw [List.drop_eq_getElem_cons hlt] at hgi
        refine ⟨go, fun H' => i + 1 ≤ xs.length ∧ ∃ ρ' h acc accV, Exw (fun a => a = Dn) (hide ρ1 Dn) (upd H1 Dn (.lst [])) ρ' H' ∧ HR C ρ' H' h ∧ H' Dn = some (.lst accV) ∧ RDs C ρ' H' acc accV ∧
          gather (gath mg ifs te (wipeE en (slotsG mg))) (xs.drop (i + 1)) h acc = some (ys, h2), fun H' ⟨hl, z⟩ => ⟨xs.length - (i + 1), by omega, hl, rfl, z⟩, fun x H2 y => ?_⟩
        obtain ⟨xy, hry, ry⟩ := yld x H2 y hhi hri
        unfold gather at hgi
        have srw : SR C ρi H2 (L2.wipe σ (slotsG mg)) (wipeE en (slotsG mg)) := (SR.wipe (sr2.tr ti) _).mono xy
        have xi2 := xi.trans (Exw.weak xy)
        have hD2 : H2 Dn = some (.lst accV) := xy.keep _ _ hDi (off_hid hri hid) id
        have ra2 := ra.mono xy
        -- the turn's own reading
        have key : ∃ en1 b h3, takeG mg xs[i] hhi (wipeE en (slotsG mg)) = some en1 ∧ tests ifs en1 hhi = some (b, h3) ∧ ((b = false ∧ gather (gath mg ifs te (wipeE en (slotsG mg))) (xs.drop (i + 1)) h3 acc = some (ys, h2)) ∨
            ∃ yv h4, b = true ∧ te.v en1 h3 = some (yv, h4) ∧ okL (acc.length + 1) = true ∧ gather (gath mg ifs te (wipeE en (slotsG mg))) (xs.drop (i + 1)) h4 (acc ++ [yv]) = some (ys, h2)) := by
          cases ht : takeG mg xs[i] hhi (wipeE en (slotsG mg)) with
          | none =>
            have : gath mg ifs te (wipeE en (slotsG mg)) xs[i] hhi = none := by unfold gath; rw [ht]
            rw [this] at hgi; cases hgi
          | some en1 =>
            cases hq : tests ifs en1 hhi with
            | none =>
              have : gath mg ifs te (wipeE en (slotsG mg)) xs[i] hhi = none := by unfold gath; rw [ht]; dsimp only; rw [hq]
              rw [this] at hgi; cases hgi
            | some bh =>
              obtain ⟨b, h3⟩ := bh
              cases b with
              | false =>
                have : gath mg ifs te (wipeE en (slotsG mg)) xs[i] hhi = some (none, h3) := by unfold gath; rw [ht]; dsimp only; rw [hq]
                rw [this] at hgi
                exact ⟨en1, false, h3, rfl, hq, .inl ⟨rfl, hgi⟩⟩
              | true =>
                cases hy : te.v en1 h3 with
                | none =>
                  have : gath mg ifs te (wipeE en (slotsG mg)) xs[i] hhi = none := by unfold gath; rw [ht]; dsimp only; rw [hq]; dsimp only; rw [hy]
                  rw [this] at hgi; cases hgi
                | some yh =>
                  obtain ⟨yv, h4⟩ := yh
                  have : gath mg ifs te (wipeE en (slotsG mg)) xs[i] hhi = some (some yv, h4) := by unfold gath; rw [ht]; dsimp only; rw [hq]; dsimp only; rw [hy]
                  rw [this] at hgi
                  dsimp only at hgi
                  split at hgi
                  · rename_i hl
                    exact ⟨en1, true, h3, rfl, hq, .inr ⟨yv, h4, rfl, hy, hl, hgi⟩⟩
                  · cases hgi
        obtain ⟨en1, b, h3, ht, hq, hrest⟩ := key
        refine ⟨ρi, _, hhi, xs[i], en1, srw, hry, ry, ht, fun vs srv => ⟨by rw [wipe_setV, wipe_wipe], ρi, en1, hhi, b, h3, srv, hry, hq, fun ρ3 H3 x3 hr3 => ?_⟩⟩
        rcases hrest with ⟨rfl, hn⟩ | ⟨yv, h4, rfl, hy, hl, hn⟩
        · refine iteF ⟨hlt, ρ3, h3, acc, accV, xi2.trans (Exw.weak x3), hr3, x3.keep _ _ hD2 (off_hid hry hid) id, ra2.mono x3, hn⟩
        · refine iteT ⟨ρ3, en1, h3, yv, h4, srv.mono x3, hr3, hy, fun ρ4 H4 v x4 hr4 rv => ?_⟩
          have x34 := x3.trans x4
          have hid4 : ρ4.hid Dn := by rw [x34.hid]; exact hid
          have hD4 : H4 Dn = some (.lst accV) := x34.keep _ _ hD2 (off_hid hry hid) id
          have ra4 := ra2.mono x34
          refine ⟨accV, hD4, by rw [← ra.len]; exact okL_lt hl, hlt, ρ4, h4, acc ++ [yv], accV ++ [v], (xi2.trans (Exw.weak x34)).trans Exw.grow, hr4.grow hid4, upd_same, (ra4.app (.cons rv .nil)).tr (Tr.grow hid4), hn⟩
      · have ei : i = xs.length := by omega
        subst ei
        rw [List.drop_length] at hgi
        cases hgi
        have q1 : Ans C ρ1 H1 (EV.newL fz ys h2).2 (EV.newL fz ys h2).1 Q := by
          rw [e2]
          exact fun ρ2 H2 v x2 hr2 rv => q ρ2 H2 v (x1.trans x2) hr2 rv
        exact .inl ⟨wstop, ans_lst q1 hr1 hD xi hri hDi ra⟩
    · cases e
  · cases e
end
end EV

set_option Elab.async false
set_option linter.all false
set_option maxRecDepth 100000
set_option maxHeartbeats 4000000
namespace EV
open PySem PySem.Spec PyProof.Rows L2
def localB (sc : Scope) (x : Str) : Bool := decide (sc.names.lookup x = some .local)
def fnB (sc : Scope) : Bool := match sc.kind with | .function => true | _ => false
theorem fn_of {sc : Scope} (h : fnB sc = true) : sc.kind = .function := by
  unfold fnB at h
  split at h
  · assumption
  · cases h
theorem star_any {vs : List Expr} (h : vs.all notStar = true) : (vs.any fun | .Starred .. => true | _ => false) = false := by
  rw [List.any_eq_false]
  intro x hx
  have := List.all_eq_true.mp h x hx
  cases x <;> first | (cases this; done) | simp
theorem sw2 {x y : Str} {px py p p2 : Pos} {k k2 : Nat} {a b : Expr} {env : Env} (hk : env.scope.kind = .function) (hx : localB env.scope x = true) (hy : localB env.scope y = true) (hl : (px.line == py.line) = true) (hn : (x == y) = false)
    (hs : [a, b].all notStar = true) (hf : [a, b].all (foldedForSure 8) = false) (hc : [a, b].all (constantsAlone 8) = false) :
    swappedStores [.Tuple [.Name x px, .Name y py] k p] (.Tuple [a, b] k2 p2) env = pure (some [x, y]) := by
  have hb : env.blockKind = .function := by unfold Env.blockKind; rw [hk]; rfl
  have hx2 : env.kindOf x = some .local := of_decide_eq_true hx
  have hy2 : env.kindOf y = some .local := of_decide_eq_true hy
  have hl2 : (py.line == px.line) = true := by rw [beq_iff_eq] at hl ⊢; exact hl.symm
  have hs2 := star_any hs
  have hn2 : (y == x) = false := by rw [beq_eq_false_iff_ne] at hn ⊢; exact Ne.symm hn
  unfold swappedStores
  simp only [hb, List.length_cons, List.length_nil, hs2, hf, hc, List.filterMap_cons, List.filterMap_nil, hx2, hy2, List.head?_cons, Option.map_some, Option.getD_some, Expr.pos, hl2]
  simp [List.eraseDups_cons, hn2, hn]
  intro h
  exfalso
  simp only [List.all_cons, Bool.and_eq_true] at hs
  rcases h with h | h
  · cases a <;> first | (cases h; done) | (cases hs.1; done)
  · cases b <;> first | (cases h; done) | (cases hs.2.1; done)
theorem sw3 {x y z : Str} {px py pz p p2 : Pos} {k k2 : Nat} {a b c : Expr} {env : Env} (hk : env.scope.kind = .function) (hx : localB env.scope x = true) (hy : localB env.scope y = true) (hz : localB env.scope z = true) (hl : (py.line == px.line) = true) (hl3 : (pz.line == px.line) = true)
    (hn : (y == x) = false) (hn2 : (z == x) = false) (hn3 : (z == y) = false)
    (hs : [a, b, c].all notStar = true) (hf : [a, b, c].all (foldedForSure 8) = false) (hc : [a, b, c].all (constantsAlone 8) = false) :
    swappedStores [.Tuple [.Name x px, .Name y py, .Name z pz] k p] (.Tuple [a, b, c] k2 p2) env = pure (some [x, y, z]) := by
  have hb : env.blockKind = .function := by unfold Env.blockKind; rw [hk]; rfl
  have hx2 : env.kindOf x = some .local := of_decide_eq_true hx
  have hy2 : env.kindOf y = some .local := of_decide_eq_true hy
  have hz2 : env.kindOf z = some .local := of_decide_eq_true hz
  have hs2 := star_any hs
  unfold swappedStores
  simp only [hb, List.length_cons, List.length_nil, hs2, hf, hc, List.filterMap_cons, List.filterMap_nil, hx2, hy2, hz2, List.head?_cons, Option.map_some, Option.getD_some, Expr.pos, hl, hl3]
  simp [List.eraseDups_cons, hn, hn2, hn3]
  intro h
  exfalso
  simp only [List.all_cons, Bool.and_eq_true] at hs
  rcases h with h | h | h
  · cases a <;> first | (cases h; done) | (cases hs.1; done)
  · cases b <;> first | (cases h; done) | (cases hs.2.1; done)
  · cases c <;> first | (cases h; done) | (cases hs.2.2.1; done)
theorem fm_le {α β : Type} (f : α → Option β) : ∀ ts : List α, (ts.filterMap f).length ≤ ts.length := fun ts => List.length_filterMap_le _ _
theorem fm_lt {α β : Type} {f : α → Option β} {bad : α → Bool} (hb : ∀ x, bad x = true → f x = none) : ∀ {ts : List α}, ts.any bad = true → (ts.filterMap f).length < ts.length
  | [], h => by cases h
  | t :: ts, h => by
    rw [List.any_cons, Bool.or_eq_true] at h
    rw [List.filterMap_cons]
    have l := fm_le f ts
    cases e : f t with
    | none => simp only [List.length_cons]; omega
    | some y =>
      have hn : ts.any bad = true := h.resolve_left fun z => by rw [hb t z] at e; cases e
      have := fm_lt hb hn
      simp only [List.length_cons]; omega
/-- a target that is no plain local name -/
def badT (sc : Scope) : Expr → Bool
  | .Name x _ => !localB sc x
  | _ => true
theorem sw0 {ts vs : List Expr} {p p2 : Pos} {k k2 : Nat} {env : Env} (h : ts.any (badT env.scope) = true) : swappedStores [.Tuple ts k p] (.Tuple vs k2 p2) env = pure none := by
  unfold swappedStores
  dsimp only
  split
  · rfl
  · split
    · rfl
    · split
      · rfl
      · rename_i hno
        exfalso
        apply hno
        rw [Bool.or_eq_true]
        refine .inl ?_
        rw [bne_iff_ne]
        refine Nat.ne_of_lt (fm_lt (bad := badT env.scope) (fun x hx => ?_) h)
        cases x <;> first | rfl | skip
        rename_i id pos
        dsimp only
        rw [if_neg]
        intro z
        rw [Bool.and_eq_true] at z
        have z1 : env.scope.names.lookup id = some .local := eq_of_beq z.1
        have hx : (!localB env.scope id) = true := hx
        unfold localB at hx
        rw [decide_eq_true z1] at hx
        cases hx
end EV

set_option Elab.async false
set_option linter.all false
set_option maxRecDepth 100000
set_option maxHeartbeats 4000000
namespace EV
open PySem PySem.Spec PyProof.Rows L2
def AnsS (C : Cn) (ρ : Rho) (H : Hp) (en' : En) (h' : MH) (fl : Fl) (Dn : Ends) : Prop := ∀ ρ' H', Ext ρ H ρ' H' → HR C ρ' H' h' → match fl with
  | .nx => ∀ σ', SR C ρ' H' σ' en' → Dn.nx σ' H'
  | .bk => ∀ σ', SR C ρ' H' σ' en' → Dn.bk σ' H'
  | .ct => ∀ σ', SR C ρ' H' σ' en' → Dn.ct σ' H'
  | .rt d => ∀ v, RD C ρ' H' d v → Dn.rt v H'
theorem AnsS.ext {C : Cn} {ρ ρ' : Rho} {H H' : Hp} {en' : En} {h' : MH} {fl : Fl} {Dn : Ends} (q : AnsS C ρ H en' h' fl Dn) (x : Ext ρ H ρ' H') : AnsS C ρ' H' en' h' fl Dn := fun ρ2 H2 x2 hr => q ρ2 H2 (x.trans x2) hr
def tS (C : Cn) (f : En → MH → Option (Fl × En × MH)) : TS := fun Dn σ H => ∃ ρ en h fl en' h', SR C ρ H σ en ∧ HR C ρ H h ∧ f en h = some (fl, en', h') ∧ AnsS C ρ H en' h' fl Dn
section
variable {X : Cx} {C : Cn} {T : Tb} {O : Orc} {k : Nat} {pos p apos : Pos} {a b e1 : Expr} {es : List Expr} {sa : Sm} {ms : List Sm} {x : Str} {st : Stmt} {ss : List Stmt}
theorem s_nilS : PSs X [] (tS C (execs O [])) := pss_nil.imp fun Dn σ H ⟨ρ, en, h, fl, en', h', sr, hr, e, q⟩ => by
  cases e
  exact q ρ H (Ext.refl _ _) hr σ sr
theorem s_consS {m : MS} {mm : List MS} (h1 : PS X st (tS C (exec O m))) (h2 : PSs X ss (tS C (execs O mm))) : PSs X (st :: ss) (tS C (execs O (m :: mm))) :=
  (pss_cons h1 h2).imp fun Dn σ H ⟨ρ, en, h, fl, en', h', sr, hr, e, q⟩ => by
    change (match exec O m en h with
      | some (.nx, σ1, h1) => execs O mm σ1 h1
      | r => r) = some (fl, en', h') at e
    split at e
    · rename_i σ1 h1 hx
      exact ⟨ρ, en, h, .nx, σ1, h1, sr, hr, hx, fun ρ1 H1 x1 hr1 σ2 sr2 => ⟨ρ1, σ1, h1, fl, en', h', sr2, hr1, e, q.ext x1⟩⟩
    · rename_i r hr'
      refine ⟨ρ, en, h, fl, en', h', sr, hr, e, fun ρ1 H1 x1 hr1 => ?_⟩
      have := q ρ1 H1 x1 hr1
      cases fl with
      | nx => exact absurd e (hr' _ _)
      | bk => exact this
      | ct => exact this
      | rt d => exact this
theorem sole_ok {t a : Expr} {l : Nat} {env : Env} (h : notComp a = true) : swapsWithSole [t] a l env = pure false := by
  unfold swapsWithSole
  exact swap_ok h
/-- target = value -/
theorem s_asg {mg : MG} {m : ME} {tg : Expr} (hv : PE X a (tV C (sem O m).v)) (hg : PG X tg (tG C mg)) (h1 : swapsWithSole [tg] a pos.line X.env = pure false) (h2 : swappedStores [tg] a X.env = pure none) (h3 : notStar tg = true) :
    PS X (.Assign [tg] a pos) (tS C (exec O (.asg mg m))) :=
  (ps_asg hv hg h1 h2 (each_ok h3)).imp fun Dn σ H ⟨ρ, en, h, fl, en', h', sr, hr, e, q⟩ => by
    change (match (sem O m).v en h with
      | some (x, h1) => match takeG mg x h1 en with
        | some σ1 => some (Fl.nx, σ1, h1)
        | none => none
      | none => none) = some (fl, en', h') at e
    split at e
    · rename_i y h1 hy
      split at e
      · rename_i σ1 ht
        cases e
        exact ⟨ρ, en, h, y, _, sr, hr, hy, fun ρ1 H1 v x1 hr1 rv => ⟨ρ1, en, _, y, _, sr.mono x1, hr1, rv, ht, fun vs srv => q ρ1 H1 x1 hr1 _ srv⟩⟩
      · cases e
    · cases e
/-- x, y = a, b -/
theorem setAll2 {i j : Nat} {xs : List D} {en en' : En} (e : setAll [i, j] xs en = some en') : ∃ x y, xs = [x, y] ∧ en' = (en.set i (some x)).set j (some y) := by
  match xs, e with
  | [x, y], e => cases e; exact ⟨x, y, rfl, rfl⟩
  | [], e => cases e
  | [_], e => cases e
  | _ :: _ :: _ :: _, e => cases e
theorem setAll3 {i j l : Nat} {xs : List D} {en en' : En} (e : setAll [i, j, l] xs en = some en') : ∃ x y z, xs = [x, y, z] ∧ en' = ((en.set i (some x)).set j (some y)).set l (some z) := by
  match xs, e with
  | [x, y, z], e => cases e; exact ⟨x, y, z, rfl, rfl⟩
  | [], e => cases e
  | [_], e => cases e
  | [_, _], e => cases e
  | _ :: _ :: _ :: _ :: _, e => cases e
theorem s_par2 {i j : Nat} {x y : Str} {px py pt pt2 : Pos} {kt k2 : Nat} {mm : List ME} (G : Gd X C T O k) (hN : X.N.Nodup) (hi : X.N[i]? = some x) (hj : X.N[j]? = some y) (hij : i ≠ j) (hk : X.env.scope.kind = .function) (hx : localB X.env.scope x = true) (hy : localB X.env.scope y = true)
    (hl : (px.line == py.line) = true) (hn : (x == y) = false) (hs : [a, b].all notStar = true) (hf : [a, b].all (foldedForSure 8) = false) (hc : [a, b].all (constantsAlone 8) = false) (ha : PA X [a, b] (tL C (sems O mm))) :
    PS X (.Assign [.Tuple [.Name x px, .Name y py] kt pt] (.Tuple [a, b] k2 pt2) pos) (tS C (exec O (.par [i, j] mm))) :=
  (ps_par G.calm hN hi hj hij (of_decide_eq_true hx) (of_decide_eq_true hy) ha (sw2 hk hx hy hl hn hs hf hc) rfl).imp fun Dn σ H ⟨ρ, en, h, fl, en', h', sr, hr, e, q⟩ => by
    change (match evs (sems O mm) en h with
      | some (xs, h1) => match setAll [i, j] xs en with
        | some σ1 => some (Fl.nx, σ1, h1)
        | none => none
      | none => none) = some (fl, en', h') at e
    split at e
    · rename_i xs h1 hx
      split at e
      · rename_i σ1 ht
        cases e
        obtain ⟨u, v, rfl, rfl⟩ := setAll2 ht
        exact ⟨ρ, en, h, _, _, sr, hr, hx, fun ρ1 H1 vs x1 hr1 rvs => by
          obtain ⟨v1, v2, rfl, r1, r2⟩ := rvs.two
          exact ⟨v1, v2, rfl, q ρ1 H1 x1 hr1 _ (((sr.mono x1).put r1).put r2)⟩⟩
      · cases e
    · cases e
theorem s_par3 {c : Expr} {i j l : Nat} {x y z : Str} {px py pz pt pt2 : Pos} {kt k2 : Nat} {mm : List ME} (G : Gd X C T O k) (hN : X.N.Nodup) (hi : X.N[i]? = some x) (hj : X.N[j]? = some y) (hl' : X.N[l]? = some z) (hij : i ≠ j) (hil : i ≠ l) (hjl : j ≠ l) (hk : X.env.scope.kind = .function)
    (hx : localB X.env.scope x = true) (hy : localB X.env.scope y = true) (hz : localB X.env.scope z = true)
    (hl : (py.line == px.line) = true) (hl3 : (pz.line == px.line) = true) (hn : (y == x) = false) (hn2 : (z == x) = false) (hn3 : (z == y) = false) (hs : [a, b, c].all notStar = true) (hf : [a, b, c].all (foldedForSure 8) = false) (hc : [a, b, c].all (constantsAlone 8) = false) (ha : PA X [a, b, c] (tL C (sems O mm))) :
    PS X (.Assign [.Tuple [.Name x px, .Name y py, .Name z pz] kt pt] (.Tuple [a, b, c] k2 pt2) pos) (tS C (exec O (.par [i, j, l] mm))) :=
  (ps_par3 G.calm hN hi hj hl' hij hil hjl (of_decide_eq_true hx) (of_decide_eq_true hy) (of_decide_eq_true hz) ha (sw3 hk hx hy hz hl hl3 hn hn2 hn3 hs hf hc) rfl).imp fun Dn σ H ⟨ρ, en, h, fl, en', h', sr, hr, e, q⟩ => by
    change (match evs (sems O mm) en h with
      | some (xs, h1) => match setAll [i, j, l] xs en with
        | some σ1 => some (Fl.nx, σ1, h1)
        | none => none
      | none => none) = some (fl, en', h') at e
    split at e
    · rename_i xs h1 hx
      split at e
      · rename_i σ1 ht
        cases e
        obtain ⟨u, v, w, rfl, rfl⟩ := setAll3 ht
        exact ⟨ρ, en, h, _, _, sr, hr, hx, fun ρ1 H1 vs x1 hr1 rvs => by
          cases rvs with | cons r1 rr =>
          obtain ⟨v2, v3, rfl, r2, r3⟩ := rr.two
          exact ⟨_, v2, v3, rfl, q ρ1 H1 x1 hr1 _ ((((sr.mono x1).put r1).put r2).put r3)⟩⟩
      · cases e
    · cases e
/-- o[i] = v -/
theorem s_sset {o i : Expr} {mo mi mv : ME} {p2 : Pos} (ho : PE X o (tV C (sem O mo).v)) (hi : PE X i (tV C (sem O mi).v)) (hv : PE X a (tV C (sem O mv).v)) (hs : notComp a = true) (hx : plainIx i = true) :
    PS X (.Assign [.Subscript o i p2] a pos) (tS C (exec O (.sset mo mi mv))) := by
  have has : ∀ v, assign (.Subscript o i p2) X.env v = (do
      let ov ← holding [v] (eval o X.env)
      let iv ← holding [v, ov] (eval i X.env)
      standAt p2
      holding [v, ov, iv] (setItem ov iv v)
      release [v, ov, iv] []) := by
    intro v
    cases i <;> first | rfl | (cases hx; done)
  refine (ps_asg hv (pg_sub (pos := p2) ho hi set_list has) (sole_ok hs) rfl rfl).imp fun Dn σ H ⟨ρ, en, h, fl, en', h', sr, hr, e, q⟩ => ?_
  change (match (sem O mv).v en h with
    | some (v, h1) => match (sem O mo).v en h1 with
      | some (.adr n, h2) => match (sem O mi).v en h2 with
        | some (.int k, h3) => match h3[n]? with
          | some (.lst xs) => match ix xs.length k with
            | some j => some (Fl.nx, en, h3.set n (.lst (xs.set j v)))
            | none => none
          | _ => none
        | _ => none
      | _ => none
    | none => none) = some (fl, en', h') at e
  split at e
  · rename_i v h1 hv1
    split at e
    · rename_i n h2 ho1
      split at e
      · rename_i kk h3 hi1
        split at e
        · rename_i xs hxs
          split at e
          · rename_i j hj
            cases e
            refine ⟨ρ, en, h, v, h1, sr, hr, hv1, fun ρ1 H1 vv x1 hr1 rv => ⟨ρ1, en, h1, _, h2, sr.mono x1, hr1, ho1, fun ρ2 H2 ov x2 hr2 ro => ⟨ρ2, en, h2, _, h3, sr.mono (x1.trans x2), hr2, hi1, fun ρ3 H3 iv x3 hr3 ri => ?_⟩⟩⟩
            cases ri
            have ro3 := ro.mono x3
            cases ro3 with
            | @adr _ ad hn =>
              obtain ⟨u, h4, ws, rfl, h5⟩ := hr3.obj _ _ _ hn hxs
              have hlen := h5.len
              refine ⟨ad, ws, kk, j, rfl, rfl, h4, by rw [← hlen]; exact hj, ?_⟩
              have xp := Ext.put (o := .lst (ws.set j vv)) hr3 hn
              have hrp := hr3.put (o := .lst (ws.set j vv)) (u := .lst (xs.set j v)) hn ⟨_, rfl, RDs.put (rv.mono (x2.trans x3)) j h5⟩
              exact q ρ3 _ (((x1.trans x2).trans x3).trans xp) hrp σ (sr.mono (((x1.trans x2).trans x3).trans xp))
          · cases e
        · cases e
      · cases e
    · cases e
  · cases e
theorem s_ex {m : ME} (hv : PE X a (tV C (sem O m).v)) (hs : notComp a = true) : PS X (.Expr a pos) (tS C (exec O (.ex m))) :=
  (ps_expr hv (swap_ok hs)).imp fun Dn σ H ⟨ρ, en, h, fl, en', h', sr, hr, e, q⟩ => by
    change (match (sem O m).v en h with
      | some (_, h1) => some (Fl.nx, en, h1)
      | none => none) = some (fl, en', h') at e
    split at e
    · rename_i y h1 hy
      cases e
      exact ⟨ρ, en, h, y, _, sr, hr, hy, fun ρ1 H1 v x1 hr1 rv => q ρ1 H1 x1 hr1 σ (sr.mono x1)⟩
    · cases e
theorem s_ret {m : ME} (hv : PE X a (tV C (sem O m).v)) : PS X (.Return (some a) pos) (tS C (exec O (.ret m))) :=
  (ps_ret hv).imp fun Dn σ H ⟨ρ, en, h, fl, en', h', sr, hr, e, q⟩ => by
    change (match (sem O m).v en h with
      | some (x, h1) => some (Fl.rt x, en, h1)
      | none => none) = some (fl, en', h') at e
    split at e
    · rename_i y h1 hy
      cases e
      exact ⟨ρ, en, h, y, _, sr, hr, hy, fun ρ1 H1 v x1 hr1 rv => q ρ1 H1 x1 hr1 v rv⟩
    · cases e
theorem s_pas : PS X (.Pass pos) (tS C (exec O .pas)) := ps_pass.imp fun Dn σ H ⟨ρ, en, h, fl, en', h', sr, hr, e, q⟩ => by
  cases e
  exact q ρ H (Ext.refl _ _) hr σ sr
theorem s_brk : PS X (.Break pos) (tS C (exec O .brk)) := ps_break.imp fun Dn σ H ⟨ρ, en, h, fl, en', h', sr, hr, e, q⟩ => by
  cases e
  exact q ρ H (Ext.refl _ _) hr σ sr
theorem s_cnt : PS X (.Continue pos) (tS C (exec O .cnt)) := ps_continue.imp fun Dn σ H ⟨ρ, en, h, fl, en', h', sr, hr, e, q⟩ => by
  cases e
  exact q ρ H (Ext.refl _ _) hr σ sr
theorem s_nev : PS X st (tS C (exec O .nev)) := ps_never.imp fun Dn σ H ⟨ρ, en, h, fl, en', h', sr, hr, e, q⟩ => by cases e
theorem s_if {m : ME} {ma mb : List MS} {c : Expr} {sa sb : List Stmt} (hc : PT X c (tB_ C (sem O m).t)) (ha : PSs X sa (tS C (execs O ma))) (hb : PSs X sb (tS C (execs O mb))) : PS X (.If c sa sb pos) (tS C (exec O (.ite m ma mb))) :=
  (ps_if hc ha hb).imp fun Dn σ H ⟨ρ, en, h, fl, en', h', sr, hr, e, q⟩ => by
    change (match (sem O m).t en h with
      | some (true, h1) => execs O ma en h1
      | some (false, h1) => execs O mb en h1
      | none => none) = some (fl, en', h') at e
    split at e
    · rename_i h1 hx
      exact ⟨ρ, en, h, true, h1, sr, hr, hx, fun ρ1 H1 x1 hr1 => iteT ⟨ρ1, en, h1, fl, en', h', sr.mono x1, hr1, e, q.ext x1⟩⟩
    · rename_i h1 hx
      exact ⟨ρ, en, h, false, h1, sr, hr, hx, fun ρ1 H1 x1 hr1 => iteF ⟨ρ1, en, h1, fl, en', h', sr.mono x1, hr1, e, q.ext x1⟩⟩
    · cases e
theorem s_for {mg : MG} {m : ME} {mb : List MS} {tg it : Expr} {sb : List Stmt} (G : Gd X C T O k) (hi : PI X tg it (tI C (sem O m).w)) (hg : PG X tg (tG C mg)) (hb : PSs X sb (tS C (execs O mb))) (hs : notSet it = true) :
    PS X (.For tg it sb [] pos) (tS C (exec O (.forS mg m mb))) := by
  have hp : PassesOwn (model X.prog X.w) X.A X.env X.xe := by rw [G.xe]; exact PassesOwn.never
  refine (ps_for hp G.calm hi hg hb (fold_ok hs)).imp fun Dn σ H ⟨ρ, en, h, fl, en', h', sr, hr, e, q⟩ => ?_
  change (match (sem O m).w en h with
    | some (xs, h1) => loop (fun x σ h => match takeG mg x h σ with
        | some σ1 => execs O mb σ1 h
        | none => none) xs en h1
    | none => none) = some (fl, en', h') at e
  split at e
  · rename_i xs h1 hx
    refine ⟨ρ, en, h, xs, h1, sr, hr, hx, fun ρ1 H1 J x1 hr1 ws => ?_⟩
    refine ⟨fun i m σ H => i ≤ xs.length ∧ m = xs.length - i ∧ ∃ ρ' en2 h2, Ext ρ1 H1 ρ' H ∧ HR C ρ' H h2 ∧ SR C ρ' H σ en2 ∧ loop (fun x σ h => match takeG mg x h σ with
        | some σ1 => execs O mb σ1 h
        | none => none) (xs.drop i) en2 h2 = some (fl, en', h'), ⟨xs.length, Nat.zero_le _, rfl, ρ1, en, h1, Ext.refl _ _, hr1, sr.mono x1, e⟩, ?_⟩
    rintro i m σi Hi ⟨hi, rfl, ρi, eni, hhi, xi, hri, sri, hl⟩
    obtain ⟨wg, wstop⟩ := ws ρi Hi (Ext.tr xi)
    by_cases hlt : i < xs.length
    · refine .inr ?_
      have hxi : xs[i]? = some xs[i] := List.getElem?_eq_getElem hlt
      obtain ⟨go, yld⟩ := wg i xs[i] hxi
      rw [List.drop_eq_getElem_cons hlt] at hl
      unfold loop at hl
      refine ⟨go, fun σ' H' => i + 1 ≤ xs.length ∧ ∃ ρ' en2 h2, Ext ρ1 H1 ρ' H' ∧ HR C ρ' H' h2 ∧ SR C ρ' H' σ' en2 ∧ loop (fun x σ h => match takeG mg x h σ with
        | some σ1 => execs O mb σ1 h
        | none => none) (xs.drop (i + 1)) en2 h2 = some (fl, en', h'), fun σ' H' ⟨hl, z⟩ => ⟨xs.length - (i + 1), by omega, hl, rfl, z⟩, fun x H2 y => ?_⟩
      obtain ⟨xy, hry, ry⟩ := yld x H2 y hhi hri
      cases ht : takeG mg xs[i] hhi eni with
      | none => rw [ht] at hl; cases hl
      | some en1 =>
        rw [ht] at hl
        dsimp only at hl
        refine ⟨ρi, eni, hhi, xs[i], en1, sri.mono xy, hry, ry, ht, fun vs srv => ?_⟩
        cases hb : execs O mb en1 hhi with
        | none => rw [hb] at hl; cases hl
        | some r =>
          obtain ⟨f1, en2, h2⟩ := r
          rw [hb] at hl
          refine ⟨ρi, en1, hhi, f1, en2, h2, srv, hry, hb, fun ρ3 H3 x3 hr3 => ?_⟩
          have xt := (xi.trans xy).trans x3
          cases f1 with
          | nx => exact fun σ' sr' => ⟨hlt, ρ3, en2, h2, xt, hr3, sr', hl⟩
          | ct => exact fun σ' sr' => ⟨hlt, ρ3, en2, h2, xt, hr3, sr', hl⟩
          | bk => cases hl; exact fun σ' sr' => q ρ3 H3 (x1.trans xt) hr3 σ' sr'
          | rt d => cases hl; exact fun v rv => q ρ3 H3 (x1.trans xt) hr3 v rv
    · have ei : i = xs.length := by omega
      subst ei
      rw [List.drop_length] at hl
      cases hl
      exact .inl ⟨wstop, q ρi Hi (x1.trans xi) hri σi sri⟩
  · cases e
theorem s_whl {m : ME} {mb : List MS} {c : Expr} {sb : List Stmt} (G : Gd X C T O k) (hc : PT X c (tB_ C (sem O m).t)) (hb : PSs X sb (tS C (execs O mb))) : PS X (.While c sb [] pos) (tS C (exec O (.whl m mb))) := by
  have hp : PassesOwn (model X.prog X.w) X.A X.env X.xe := by rw [G.xe]; exact PassesOwn.never
  refine (ps_while hp hc hb).imp fun Dn σ H ⟨ρ, en, h, fl, en', h', sr, hr, e, q⟩ => ?_
  change wloop (fun σ h => (sem O m).t σ h) (fun σ h => execs O mb σ h) O.turns en h = some (fl, en', h') at e
  refine ⟨fun n σ2 H2 => ∃ ρ' en2 h2, Ext ρ H ρ' H2 ∧ HR C ρ' H2 h2 ∧ SR C ρ' H2 σ2 en2 ∧ wloop (fun σ h => (sem O m).t σ h) (fun σ h => execs O mb σ h) n en2 h2 = some (fl, en', h'), ⟨O.turns, ρ, en, h, Ext.refl _ _, hr, sr, e⟩, ?_⟩
  rintro n σi Hi ⟨ρi, eni, hhi, xi, hri, sri, hl⟩
  cases n with
  | zero => cases hl
  | succ n =>
    unfold wloop at hl
    cases hct : (sem O m).t eni hhi with
    | none => rw [hct] at hl; cases hl
    | some bh =>
      obtain ⟨b, h1⟩ := bh
      rw [hct] at hl
      refine ⟨ρi, eni, hhi, b, h1, sri, hri, hct, fun ρ1 H1 x1 hr1 => ?_⟩
      cases b with
      | false =>
        cases hl
        exact iteF (q ρ1 H1 (xi.trans x1) hr1 σi (sri.mono x1))
      | true =>
        dsimp only at hl
        refine iteT ⟨fun σ' H' => ∃ ρ' en2 h2, Ext ρ H ρ' H' ∧ HR C ρ' H' h2 ∧ SR C ρ' H' σ' en2 ∧ wloop (fun σ h => (sem O m).t σ h) (fun σ h => execs O mb σ h) n en2 h2 = some (fl, en', h'), fun σ' H' z => ⟨n, Nat.lt_succ_self n, z⟩, ?_⟩
        cases hb : execs O mb eni h1 with
        | none => rw [hb] at hl; cases hl
        | some r =>
          obtain ⟨f1, en2, h2⟩ := r
          rw [hb] at hl
          refine ⟨ρ1, eni, h1, f1, en2, h2, sri.mono x1, hr1, hb, fun ρ3 H3 x3 hr3 => ?_⟩
          have xt := (xi.trans x1).trans x3
          cases f1 with
          | nx => exact fun σ' sr' => ⟨ρ3, en2, h2, xt, hr3, sr', hl⟩
          | ct => exact fun σ' sr' => ⟨ρ3, en2, h2, xt, hr3, sr', hl⟩
          | bk => cases hl; exact fun σ' sr' => q ρ3 H3 xt hr3 σ' sr'
          | rt d => cases hl; exact fun v rv => q ρ3 H3 xt hr3 v rv
end
end EV

set_option Elab.async false
set_option linter.all false
set_option maxRecDepth 100000
set_option maxHeartbeats 8000000
/-! ## {e for a in u for b in v}: a set of texts, gathered by two clauses without tests -/
namespace EV
open PySem PySem.Spec PyProof.Rows L2
abbrev sc2 (e t0 u t1 v : Expr) (scope : Scope) (pos : Pos) : Expr := .SetComp e [⟨t0, u, [], 0⟩, ⟨t1, v, [], 0⟩] scope pos
theorem turn_o (e t0 u t1 v : Expr) (scope : Scope) (pos : Pos) (it acc : Value) (env : Env) : compTurn (sc2 e t0 u t1 v scope pos) 0 it acc env = (do
    standAt u.pos
    match ← pyNext it with
    | none => pure (.done .next)
    | some z =>
      letOwnedTupleGo t0 it z
      assign t0 env z
      let y ← eval v env
      standAt v.pos
      let y ← foldedSetIterable v env y
      let _ ← runOwn (.compStart (sc2 e t0 u t1 v scope pos) 1 (← holding [y] (pyIter y)) acc env) env
      again (.compLoop (sc2 e t0 u t1 v scope pos) 0 it acc env)) := by rfl
theorem turn_i (e t0 u t1 v : Expr) (scope : Scope) (pos : Pos) (it acc : Value) (env : Env) : compTurn (sc2 e t0 u t1 v scope pos) 1 it acc env = (do
    standAt v.pos
    match ← pyNext it with
    | none => pure (.done .next)
    | some z =>
      letOwnedTupleGo t1 it z
      assign t1 env z
      (do let y ← eval e env; standAt e.pos; let _ ← call (.builtin "set.add") [acc, y])
      again (.compLoop (sc2 e t0 u t1 v scope pos) 1 it acc env)) := by rfl
section
variable {prog : Program} {w : World} {A : Around} {R : Result → Shared → Prop} {s : Shared} {e t0 u t1 v : Expr} {scope : Scope} {pos : Pos} {it acc : Value} {env : Env}
/-- what is left to be shown where something is raised -/
abbrev Rz (prog : Program) (w : World) (A : Around) (env : Env) (R : Result → Shared → Prop) : Value → Shared → Prop := notedBy (model prog w) A env fun x s' => R (.error x) s'
theorem loop_o (hs : ∀ x, foldedSetIterable v env x = pure x) (I : Nat → Shared → Prop)
    (turn : ∀ n s, I n s → wpAny (model prog w) A (pyNext it) (fun r s1 => match r with
      | none => R (.ok .next) s1
      | some z => wpAny (model prog w) A (letOwnedTupleGo t0 it z) (fun _ s2 => wpAny (model prog w) A (assign t0 env z) (fun _ s3 => wpAny (model prog w) A (eval v env) (fun y s4 => wpAny (model prog w) A (pyIter y) (fun it1 s5 =>
          codeAny (model prog w) A (.compStart (sc2 e t0 u t1 v scope pos) 1 it1 acc env) (fun r s' => match r with
            | .ok _ => ∃ m, m < n ∧ I m s'
            | .error _ => False) s5) (Rz prog w A env R) s4) (Rz prog w A env R) s3) (Rz prog w A env R) s2) (Rz prog w A env R) s1) (Rz prog w A env R) s)
    (n : Nat) (h : I n s) : codeAny (model prog w) A (.compLoop (sc2 e t0 u t1 v scope pos) 0 it acc env) R s := by
  refine codeAny_loop rfl I (fun n s hI => ?_) n h
  show wpAny _ A ((compTurn (sc2 e t0 u t1 v scope pos) 0 it acc env).onRaise (fun x => do noteFrame x env; theTreesLotGoes x)) _ _ s
  refine wpAny_noted ?_
  rw [turn_o]
  refine wpAny_bind (wpAny_standAt (wpAny_bind (wpAny_mono (turn n s hI) (fun r s1 h1 => ?_) fun _ _ z => z)))
  cases r with
  | none => exact wpAny_pure h1
  | some z =>
    refine wpAny_bind (wpAny_mono h1 (fun _ s2 h2 => wpAny_bind (wpAny_mono h2 (fun _ s3 h3 => wpAny_bind (wpAny_mono h3 (fun y s4 h4 => ?_) fun _ _ q => q)) fun _ _ q => q)) fun _ _ q => q)
    refine wpAny_bind (wpAny_standAt (wpAny_bind (wpAny_of_eq (hs y) (wpAny_bind (wpAny_holding (wpAny_mono h4 (fun it1 s5 h5 => ?_) fun _ _ q => q))))))
    refine wpAny_bind (wpAny_runOwn ?_)
    rw [Around.mark_none]
    refine codeAny_mono h5 fun r s' hr => ?_
    cases r with
    | error x => exact hr.elim
    | ok f => first | exact wpAny_pure ⟨rfl, hr⟩ | exact wpAny_bind (wpAny_pure (wpAny_pure ⟨rfl, hr⟩))
theorem loop_i (I : Nat → Shared → Prop)
    (turn : ∀ n s, I n s → wpAny (model prog w) A (pyNext it) (fun r s1 => match r with
      | none => R (.ok .next) s1
      | some z => wpAny (model prog w) A (letOwnedTupleGo t1 it z) (fun _ s2 => wpAny (model prog w) A (assign t1 env z) (fun _ s3 => wpAny (model prog w) A (eval e env) (fun y s4 =>
          wpAny (model prog w) A (call (.builtin "set.add") [acc, y]) (fun _ s5 => ∃ m, m < n ∧ I m s5) (Rz prog w A env R) s4) (Rz prog w A env R) s3) (Rz prog w A env R) s2) (Rz prog w A env R) s1) (Rz prog w A env R) s)
    (n : Nat) (h : I n s) : codeAny (model prog w) A (.compLoop (sc2 e t0 u t1 v scope pos) 1 it acc env) R s := by
  refine codeAny_loop rfl I (fun n s hI => ?_) n h
  show wpAny _ A ((compTurn (sc2 e t0 u t1 v scope pos) 1 it acc env).onRaise (fun x => do noteFrame x env; theTreesLotGoes x)) _ _ s
  refine wpAny_noted ?_
  rw [turn_i]
  refine wpAny_bind (wpAny_standAt (wpAny_bind (wpAny_mono (turn n s hI) (fun r s1 h1 => ?_) fun _ _ z => z)))
  cases r with
  | none => exact wpAny_pure h1
  | some z =>
    refine wpAny_bind (wpAny_mono h1 (fun _ s2 h2 => wpAny_bind (wpAny_mono h2 (fun _ s3 h3 => ?_) fun _ _ q => q)) fun _ _ q => q)
    exact wpAny_bind (wpAny_bind (wpAny_mono h3 (fun y s4 h4 => wpAny_bind (wpAny_standAt (wpAny_bind (wpAny_mono h4 (fun _ s5 h5 => wpAny_pure (wpAny_pure ⟨rfl, h5⟩)) fun _ _ q => q)))) fun _ _ q => q))
/-- a clause's start, an iterator given -/
theorem start_ (k : Nat) (hk : k = 0 ∨ k = 1) (h0 : codeAny (model prog w) A (.compLoop (sc2 e t0 u t1 v scope pos) k it acc env) R s)
    (h : wpAny (model prog w) A (pyIter it) (fun it' s' => codeAny (model prog w) A (.compLoop (sc2 e t0 u t1 v scope pos) k it' acc env) R s') (Rz prog w A env R) s) : codeAny (model prog w) A (.compStart (sc2 e t0 u t1 v scope pos) k it acc env) R s := by
  refine codeAny_of_tree ?_
  show wpAny _ _ ((compStart (sc2 e t0 u t1 v scope pos) k it acc env).onRaise (fun x => do noteFrame x env; standAt theWindowsPlace)) _ _ s
  refine wpAny_notedAt ?_
  rcases hk with rfl | rfl
  all_goals
    unfold compStart
    show wpAny _ _ (ask >>= _) _ _ s
    refine wpAny_bind (wpAny_askSetting (wpAny_ite ?_))
    split
    · first
        | exact wpAny_pure (And.intro rfl h0)
        | exact wpAny_bind (wpAny_pure (wpAny_pure (And.intro rfl h0)))
    · refine wpAny_bind (wpAny_rule ?_)
      first
        | (show wpAny _ _ (standAt u.pos >>= _) _ _ s; exact wpAny_bind (wpAny_standAt (wpAny_bind (wpAny_mono h (fun it' s' q => wpAny_pure (And.intro rfl q)) fun _ _ x => x))))
        | (show wpAny _ _ (standAt v.pos >>= _) _ _ s; exact wpAny_bind (wpAny_standAt (wpAny_bind (wpAny_mono h (fun it' s' q => wpAny_pure (And.intro rfl q)) fun _ _ x => x))))
        | exact wpAny_bind (wpAny_standAt (wpAny_bind (wpAny_mono h (fun it' s' q => wpAny_pure (And.intro rfl q)) fun _ _ x => x)))
end
end EV

set_option Elab.async false
set_option linter.all false
set_option maxRecDepth 100000
set_option maxHeartbeats 8000000
namespace EV
open PySem PySem.Spec PyProof.Rows L2
/-- the inner clause's part of the reading -/
def tIn (P : Program) (w : World) (Dn : Addr) (g : TG) (te : TE) (vs : List Nat) (σ : L2.St) (Nx : Hp → Prop) (J : It) (H4 : Hp) : Prop := ∃ W : Nat → Nat → Hp → Prop, (∃ m, W 0 m H4) ∧ ∀ j n H, W j n H →
  (J.stop j H ∧ Nx H) ∨ (J.go j H ∧ ∃ Ny : Hp → Prop, (∀ H', Ny H' → ∃ n', n' < n ∧ W (j + 1) n' H') ∧ ∀ x H', J.yld j H x H' → g x (L2.wipe σ vs) H' fun σ3 H5 => L2.wipe σ3 vs = L2.wipe σ vs ∧ te σ3 H5 fun y H7 =>
    ∃ (c : Key) (S : Key → Bool) (n : Nat), y = kV c ∧ H7 Dn = some (SetK P w Dn S n) ∧ n + 1 < scanBound ∧ Ny (upd H7 Dn (SetK P w Dn (fun j => S j || decide (j = c)) (if S c = true then n else n + 1))))
/-- {e for a in u for b in v}: Dn the new set -/
def tSc2 (P : Program) (w : World) (wi : TI) (g : TG) (wi1 : TI) (g1 : TG) (te : TE) (vs vs1 : List Nat) : TE := fun σ H Q => wi σ H fun J H1 => ∀ Dn, H1 Dn = none → ∃ W : Nat → Nat → Hp → Prop, (∃ m, W 0 m (upd H1 Dn (SetK P w Dn (fun _ => false) 0))) ∧ ∀ i m H, W i m H →
  (J.stop i H ∧ Q (.ref Dn) H) ∨ (J.go i H ∧ ∃ Nx : Hp → Prop, (∀ H', Nx H' → ∃ m', m' < m ∧ W (i + 1) m' H') ∧ ∀ x H', J.yld i H x H' → g x (L2.wipe σ vs) H' fun σ2 H2 => L2.wipe σ2 vs = L2.wipe σ vs ∧ wi1 σ2 H2 fun J1 H4 => tIn P w Dn g1 te vs1 σ2 Nx J1 H4)
section
variable {X : Cx}
theorem setK_fresh (P : Program) (w : World) (h : Heap) : (h.push { cls := .type "set", dict := none, data := .set #[] 0 (.fresh 0 0 (!w.params.followText "set-order")) }).SetOf (mixKind P w) h.objs.size (fun _ => false) 0 :=
  ⟨_, #[], 0, _, Heap.get?_push_size _ rfl, ⟨rfl, rfl, rfl⟩, rfl, (fun e he => by simp at he), (fun k => by simp), (by decide), (by rfl), rfl⟩
abbrev Blk (X : Cx) (P : Cx → Prop) (scope : Scope) : Prop := ∀ (s : Shared) (H : Hp) (C : Addr) (cl : List (Str × Addr)) (fp : List Addr), P (X.blk s H scope (compEnvC scope cl C X.env) fp)
theorem sc2_run {pins : List (Addr × Obj)} {s : Shared} {σ : L2.St} {H : Hp} {Q : VK} {e t0 u t1 v : Expr} {scope : Scope} {own : List (Str × Nat)} {vs1 : List Nat} {pos pos' : Pos} {wi wi1 : TI} {g g1 : TG} {te : TE} {use : Option (Value → Sem Unit)} {Qf : Value → Shared → Prop}
    (hc : X.calm = true) (hN : X.N.Nodup) (I : Inv X pins σ H s) (hi : PI X t0 u wi) (ok : BlkOk X.N X.env.scope scope own) (hv : ∀ i ∈ vs1, i ∈ own.map (·.2)) (hg : Blk X (fun Y => PG Y t0 g) scope) (hi1 : Blk X (fun Y => PI Y t1 v wi1) scope) (hg1 : Blk X (fun Y => PG Y t1 g1) scope) (he : Blk X (fun Y => PE Y e te) scope)
    (hs : ∀ x, foldedSetIterable u X.env x = pure x) (hs1 : ∀ env x, foldedSetIterable v env x = pure x) (h : tSc2 X.prog X.w wi g wi1 g1 te (own.map (·.2)) vs1 σ H Q)
    (out : ∀ D C s' m H', Inv X pins σ H' s' → Q (.ref D) H' → s'.heap.Ns C m → FpOk X pins H' C → compPost (model X.prog X.w) X.A X.xe use Qf (.ref D) C (.ok .next) s') :
    wpAny (model X.prog X.w) X.A (comprehension (sc2 e t0 u t1 v scope pos) scope X.env pos' (newSet (.type "set")) false (eval u X.env) use) Qf X.xe s := by
  have fre : ∀ y ∈ scope.names, y.2 = .free → ∃ c, X.env.cells.lookup y.1 = some c := fun y hy z => (ok.free y hy z).elim (fun k => I.ok.has _ (.inl k)) fun k => I.ok.has _ (.inr k)
  refine wpAny_comprehension_free (use := use) rfl hs (closure_ok fre) ok.kind (fun y hy z => by rw [ok.uniq y hy, z]) (thn (hi.run pins s σ H _ I h) fun xv s1 hx => thn hx fun itv s2 h2 => ?_)
  obtain ⟨it, fp, tn, J, H2, e0, I2, T, st2, f2, q⟩ := h2
  subst e0
  refine PpSet.newSet_ok (newEnv_comp ?_)
  generalize hD : s2.heap.objs.size = D
  have hDn : H2 D = none := I2.hok.fresh (Nat.le_of_eq hD)
  obtain ⟨W, ⟨m0, w0⟩, turn⟩ := q D hDn
  generalize hU : SetK X.prog X.w D (fun _ => false) 0 = U at w0
  generalize hs3 : ({ s2 with heap := s2.heap.push { cls := .type "set", dict := none, data := .set #[] 0 (.fresh 0 0 (!X.w.params.followText "set-order")) } } : Shared) = s3
  have h3 : s3.heap = s2.heap.push { cls := .type "set", dict := none, data := .set #[] 0 (.fresh 0 0 (!X.w.params.followText "set-order")) } := by rw [← hs3]
  have I3 : Inv X pins σ (upd H2 D U) s3 := by
    rw [← hs3, ← hU]
    refine I2.laid (t' := s2.toks) (fun b o z => Heap.get?_push_of_some _ z) (Nat.le_of_eq hD) ?_
    rw [← hD]
    exact setK_new (setK_fresh _ _ _)
  have lt2 : ∀ b ∈ fp, b < s2.heap.objs.size := fun b hb => let ⟨o, z, _⟩ := T.obj _ _ st2 b hb; Heap.lt_size z
  have f3 : ∀ b ∈ fp, FpOk X pins (upd H2 D U) b ∧ b < s3.heap.objs.size := fun b hb => ⟨⟨by rw [upd_ne (by rw [← hD]; exact Nat.ne_of_lt (lt2 b hb))]; exact (f2 b hb).1, (f2 b hb).2⟩, by rw [h3, Heap.size_push]; exact Nat.lt_succ_of_lt (lt2 b hb)⟩
  have st3 : tn 0 s3.heap := T.keep _ _ _ st2 fun b _ o z => by rw [h3]; exact Heap.get?_push_of_some _ z
  have I4 := block_start I3 ok hN f3
  generalize hcl : cellsFrom (s3.heap.objs.size + 1) scope.names (cloFrom X.env.cells scope.names []) = cl at I4 ⊢
  have pg := hg s3 (upd H2 D U) s3.heap.objs.size cl fp
  have pe := he s3 (upd H2 D U) s3.heap.objs.size cl fp
  have pi1 := hi1 s3 (upd H2 D U) s3.heap.objs.size cl fp
  have pg1 := hg1 s3 (upd H2 D U) s3.heap.objs.size cl fp
  have nfp : ∀ b ∈ fp, (upd H2 D U) b = none := fun b hb => (f3 b hb).1.1
  show codeAny _ _ (.compStart (sc2 e t0 u t1 v scope pos) 0 (.ref it) (.ref D) (compEnvC scope cl s3.heap.objs.size X.env)) (compPost (model X.prog X.w) X.A X.xe use Qf (.ref D) s3.heap.objs.size) { s3 with heap := pushCells (s3.heap.push { cls := .type "dict", data := .dict #[] }) scope.names }
  generalize hce : compEnvC scope cl s3.heap.objs.size X.env = ce at I4 pg pe pi1 pg1 ⊢
  have cL : ce.locals = s3.heap.objs.size := by subst hce; rfl
  generalize hH3 : upd H2 D U = H3 at I3 I4 pg pe pi1 pg1 w0 nfp f3
  generalize hs4 : ({ s3 with heap := pushCells (s3.heap.push { cls := .type "dict", data := .dict #[] }) scope.names } : Shared) = s4 at I4 ⊢
  have st4 : tn 0 s4.heap := T.keep _ _ _ st3 fun b _ o z => by rw [← hs4]; exact pushCells_keeps _ _ _ _ (Heap.get?_push_of_some _ z)
  have stat : ∀ {σ' : L2.St} {H' : Hp} {s' : Shared}, Inv (X.blk s3 H3 scope ce fp) [] σ' H' s' → (∀ b ∈ fp, H' b = none) → ∀ b ∈ fp, FpOk (X.blk s3 H3 scope ce fp) [] H' b := fun {σ' H' s'} I' hn b hb =>
    ⟨hn b hb, (I'.ok.exf b hb).1, I'.ok.exfs b hb, .inl hb, fun x c z => (I'.ok.exf b hb).2 x c z, fun p hp => absurd (show p ∈ ([] : List (Addr × Obj)) ++ [] from hp) (by simp)⟩
  have loop : codeAny (model X.prog X.w) X.A (.compLoop (sc2 e t0 u t1 v scope pos) 0 (.ref it) (.ref D) ce) (compPost (model X.prog X.w) X.A X.xe use Qf (.ref D) s3.heap.objs.size) s4 := by
    refine loop_o (hs1 ce) (fun n s' => ∃ i H', Inv (X.blk s3 H3 scope ce fp) [] (L2.wipe σ (own.map (·.2))) H' s' ∧ tn i s'.heap ∧ (∀ b ∈ fp, H' b = none) ∧ W i n H') ?_ m0 ⟨0, H3, I4, st4, nfp, w0⟩
    rintro n s5 ⟨i, H5, I5, st5, n5, w5⟩
    rcases turn i n H5 w5 with ⟨stop, qq⟩ | ⟨go, Nx, hNx, step⟩
    · refine thnF (T.done (X.blk s3 H3 scope ce fp) rfl rfl rfl hc i [] s5 _ H5 (fun _ _ => False) I5 (stat I5 n5) st5 stop) fun r s6 ⟨hr, I6⟩ => ?_
      subst hr
      have I7 : Inv X pins σ H5 s6 := I3.call' (ch := fp) I6.os I6.base I6.hok I6.bare fun b hb => ⟨(f3 b hb).1.2.2.2.1, (f3 b hb).1.2.1, (f3 b hb).1.2.2.2.2.1, (f3 b hb).1.2.2.2.2.2⟩
      have nC : H5 s3.heap.objs.size = none := by rw [← cL]; exact I6.free
      obtain ⟨m, hn, _⟩ := I6.loc
      have hn : s6.heap.Ns ce.locals m := hn
      exact out D _ s6 m H5 I7 qq (by rw [← cL]; exact hn) (I3.fpOk (Nat.le_refl _) nC)
    · refine thnF (T.item (X.blk s3 H3 scope ce fp) rfl rfl rfl hc i [] s5 _ H5 (fun _ _ => False) I5 (stat I5 n5) st5 go) fun r s6 ⟨z, hr, h6⟩ => ?_
      subst hr
      refine thnF h6 fun _ s7 ⟨x, H7, I7, r7, y7, st7, n7⟩ => ?_
      refine thnF (pg.run _ s7 _ H7 x z _ (I7.pinned (stat I7 n7) (T.obj _ _ st7)) r7 (step x H7 y7)) fun _ s8 ⟨σ8, H8, I8, w8, q8⟩ => ?_
      -- what the first clause's next turn starts from
      have next : ∀ {σ9 : L2.St} {s' : Shared} {H' : Hp}, Inv (X.blk s3 H3 scope ce fp) ([] ++ pinsAt fp s7.heap) σ9 H' s' → (L2.wipe σ (own.map (·.2))).length = σ9.length → (∀ (j : Nat) y, (L2.wipe σ (own.map (·.2)))[j]? = some (some y) → σ9[j]? = some (some y)) → Nx H' →
          ∃ m, m < n ∧ ∃ i H', Inv (X.blk s3 H3 scope ce fp) [] (L2.wipe σ (own.map (·.2))) H' s' ∧ tn i s'.heap ∧ (∀ b ∈ fp, H' b = none) ∧ W i m H' := fun {σ9 s' H'} I' hl hk nx => by
        obtain ⟨m', hm, w'⟩ := hNx H' nx
        have pin : ∀ b ∈ fp, ∀ o, s7.heap.get? b = some o → s'.heap.get? b = some o ∧ H' b = none := fun b hb o z => ⟨(I'.pin (b, o) (List.mem_append_right _ (List.mem_append_right _ (mem_pinsAt hb z)))).1, (I'.pin (b, o) (List.mem_append_right _ (List.mem_append_right _ (mem_pinsAt hb z)))).2.1⟩
        exact ⟨m', hm, i + 1, H', (I'.unpinned (pins := [])).weak hl hk, T.keep _ _ _ st7 fun b hb o z => (pin b hb o z).1, fun b hb => let ⟨o, z, _⟩ := T.obj _ _ st7 b hb; (pin b hb o z).2, w'⟩
      have l8 : (L2.wipe σ (own.map (·.2))).length = σ8.length := by rw [← w8, L2.wipe_length]
      have k9 : ∀ (j : Nat) y, (L2.wipe σ (own.map (·.2)))[j]? = some (some y) → (L2.wipe σ8 vs1)[j]? = some (some y) := fun j y z => by
        rw [← w8] at z
        obtain ⟨z1, z2⟩ := L2.wipe_some z
        rw [L2.wipe_out fun z => z2 (hv j z)]
        exact z1
      refine thnF (pi1.run _ s8 σ8 H8 _ I8 q8) fun xv s10 hx => thnF hx fun itv s11 h11 => ?_
      obtain ⟨it1, fp1, tn1, J1, H11, e1, I11, T1, st11, f11, W1, ⟨m1, w1⟩, turn1⟩ := h11
      subst e1
      have stat1 : ∀ {H' : Hp}, (∀ b ∈ fp1, H' b = none) → ∀ b ∈ fp1, FpOk (X.blk s3 H3 scope ce fp) ([] ++ pinsAt fp s7.heap) H' b := fun hn b hb => ⟨hn b hb, (f11 b hb).2⟩
      have inner : codeAny (model X.prog X.w) X.A (.compLoop (sc2 e t0 u t1 v scope pos) 1 (.ref it1) (.ref D) ce) (fun r s' => match r with
          | .ok _ => ∃ m, m < n ∧ ∃ i H', Inv (X.blk s3 H3 scope ce fp) [] (L2.wipe σ (own.map (·.2))) H' s' ∧ tn i s'.heap ∧ (∀ b ∈ fp, H' b = none) ∧ W i m H'
          | .error _ => False) s11 := by
        refine loop_i (fun k s' => ∃ j H', Inv (X.blk s3 H3 scope ce fp) ([] ++ pinsAt fp s7.heap) (L2.wipe σ8 vs1) H' s' ∧ tn1 j s'.heap ∧ (∀ b ∈ fp1, H' b = none) ∧ W1 j k H') ?_ m1 ⟨0, H11, I11.weak (L2.wipe_length _ _) (fun j y z => (L2.wipe_some z).1), st11, fun b hb => (f11 b hb).1, w1⟩
        rintro k s12 ⟨j, H12, I12, st12, n12, w12⟩
        rcases turn1 j k H12 w12 with ⟨stop1, nx1⟩ | ⟨go1, Ny, hNy, step1⟩
        · refine thnF (T1.done (X.blk s3 H3 scope ce fp) rfl rfl rfl hc j _ s12 (L2.wipe σ8 vs1) H12 (fun _ _ => False) I12 (stat1 n12) st12 stop1) fun r s13 ⟨hr, I13⟩ => ?_
          subst hr
          exact next I13 (l8.trans (L2.wipe_length σ8 vs1).symm) k9 nx1
        · refine thnF (T1.item (X.blk s3 H3 scope ce fp) rfl rfl rfl hc j _ s12 (L2.wipe σ8 vs1) H12 (fun _ _ => False) I12 (stat1 n12) st12 go1) fun r s13 ⟨z1, hr, h13⟩ => ?_
          subst hr
          refine thnF h13 fun _ s14 ⟨x1, H14, I14, r14, y14, st14, n14⟩ => ?_
          refine thnF (pg1.run _ s14 (L2.wipe σ8 vs1) H14 x1 z1 _ (I14.pinned (stat1 n14) (T1.obj _ _ st14)) r14 (step1 x1 H14 y14)) fun _ s15 ⟨σ15, H15, I15, w15, q15⟩ => ?_
          refine thnF (pe.run _ s15 σ15 H15 _ I15 q15) fun zv s17 ⟨yv, H17, I17, r17, c, S0, n0, ey, hD17, hz17, ny⟩ => ?_
          subst ey
          refine thnF (mt_saddK (X := X.blk s3 H3 scope ce fp) _ s17 σ15 H17 (.ref D) [kV c] (.ref D) [zv] (fun _ H' => Ny H') I17 rfl (.cons r17 .nil) ⟨D, c, S0, n0, rfl, rfl, hD17, hz17, ny⟩) fun _ s18 ⟨_, H18, I18, _, ny18⟩ => ?_
          obtain ⟨n', hn', w'⟩ := hNy H18 ny18
          have pin : ∀ b ∈ fp1, ∀ o, s14.heap.get? b = some o → s18.heap.get? b = some o ∧ H18 b = none := fun b hb o z => ⟨(I18.pin (b, o) (List.mem_append_right _ (List.mem_append_right _ (mem_pinsAt hb z)))).1, (I18.pin (b, o) (List.mem_append_right _ (List.mem_append_right _ (mem_pinsAt hb z)))).2.1⟩
          exact ⟨n', hn', j + 1, H18, I18.unpinned.weak (by rw [← w15, L2.wipe_length]) (fun j y z => by rw [← w15] at z; exact (L2.wipe_some z).1), T1.keep _ _ _ st14 fun b hb o z => (pin b hb o z).1, fun b hb => let ⟨o, z, _⟩ := T1.obj _ _ st14 b hb; (pin b hb o z).2, w'⟩
      exact start_ 1 (.inr rfl) inner (T1.self X.A 0 _ _ _ st11 inner)
  exact start_ 0 (.inl rfl) loop (T.self X.A 0 _ _ _ st4 loop)
theorem pe_sc2 {e t0 u t1 v : Expr} {scope : Scope} {own : List (Str × Nat)} {vs1 : List Nat} {pos : Pos} {wi wi1 : TI} {g g1 : TG} {te : TE} (hc : X.calm = true) (hN : X.N.Nodup) (hi : PI X t0 u wi) (ok : BlkOk X.N X.env.scope scope own) (hv : ∀ i ∈ vs1, i ∈ own.map (·.2))
    (hg : Blk X (fun Y => PG Y t0 g) scope) (hi1 : Blk X (fun Y => PI Y t1 v wi1) scope) (hg1 : Blk X (fun Y => PG Y t1 g1) scope) (he : Blk X (fun Y => PE Y e te) scope) (hs : ∀ x, foldedSetIterable u X.env x = pure x) (hs1 : ∀ env x, foldedSetIterable v env x = pure x) :
    PE X (sc2 e t0 u t1 v scope pos) (tSc2 X.prog X.w wi g wi1 g1 te (own.map (·.2)) vs1) := by
  refine ⟨fun pins s σ H Q I h => ?_⟩
  rw [PpSet.eval_SetComp]
  refine sc2_run hc hN I hi ok hv hg hi1 hg1 he hs hs1 h fun D C s' m H' I' q hn f => ⟨m, hn, fun h2 sb => ?_⟩
  obtain ⟨f0, f1, f2, f3, f4, f5⟩ := f
  exact ⟨.ref D, H', I'.turned (t' := s'.toks) (fun b o hb z => (sb.2 b hb).trans z) f0 f1 f3 f4 f5, rfl, q⟩
/-- len of such a set -/
def rLenK (P : Program) (w : World) : List V → Hp → VK → Prop := fun xs H Q => ∃ (a : Addr) (S : Key → Bool) (n : Nat), xs = [.ref a] ∧ H a = some (SetK P w a S n) ∧ n < scanBound ∧ Q (.int n) H
theorem cr_lenK : CallR X (.builtin "len") (rLenK X.prog X.w) := by
  intro pins s σ H xs us Q I r h
  obtain ⟨a, S, n, rfl, ha, hb, q⟩ := h
  cases r with
  | cons r rr =>
    cases rr
    cases r
    obtain ⟨o, es, ep, t, ho, hex, hd, _, _, _, hf, hn⟩ := setK_get I ha
    exact call_len_set ho hex hd hf (by rw [hn]; exact Int.lt_trans (Int.ofNat_lt.mpr hb) (by decide)) ⟨.int n, H, I.tok _, ⟨_, by rw [hn]⟩, q⟩
end
end EV

set_option Elab.async false
set_option linter.all false
set_option maxRecDepth 100000
set_option maxHeartbeats 8000000
/-! ## own classes where no repr is under way; a starred target -/
namespace EV
open PySem PySem.Spec PyProof.Rows L2 ClX
section
variable {X : Cx} {k : Nat} {C f g p : Addr} {sp : Sp} {pins : List (Addr × Obj)} {σ : L2.St} {H : Hp} {s : Shared} {Q : VK} {us : List Value} {vs : List V}
theorem ends_ok {H1 : Hp} {s1 s' : Shared} {P : Value → Shared → Prop} {r : Result} (I : Inv X pins σ H1 s1) (h : CR CX0 X.stack X.prog X.w H1 s1 Q (fun _ _ _ => False) r s') (q : ∀ u, EP X pins σ Q u s' → P u s') : match r with
    | .ok (.ret u) => P u s'
    | _ => False := by
  cases r with
  | error e => exact False.elim h
  | ok fl =>
    cases fl with
    | ret u => exact q u (I.after h)
    | next => exact False.elim h
    | brk => exact False.elim h
    | cont => exact False.elim h
/-- C(..) -/
theorem mkG (M : Mk X.K C f) (F : FnG X.prog X.w X.K X.mg X.base k f sp) (hr : Rs k X.A) (I : Inv X pins σ H s) (r : Vals vs us)
    (h : ∀ x dx, H x = none → H dx = none → dx ≠ x → sp (.ref x :: vs) (upd (upd H dx (.own x)) x (.ins C dx [])) (fun v H2 => v = .non ∧ Q (.ref x) H2) (fun _ _ _ => False)) : wpAny (model X.prog X.w) X.A (call (.ref C) us) (EP X pins σ Q) X.xe s := by
  generalize hz : s.heap.objs.size = z
  have hq := h (z + 1) z (I.hok.fresh (by rw [hz]; exact Nat.le_succ _)) (I.hok.fresh (by rw [hz]; exact Nat.le_refl _)) (Nat.ne_of_lt (Nat.lt_succ_self _))
  have I2 := Inv.made (C := C) I
  rw [hz] at I2
  have r2 : Vals (V.ref (z + 1) :: vs) (Value.ref (z + 1) :: us) := .cons rfl r
  refine wpAny_call (make_map (f := f) I.kIn M.makes M.init (beq_iff_eq.mp M.fn) ?_)
  rw [hz]
  refine codeAny_mono (F _ X.stack _ _ _ _ _ _ (hr.make C us) (I2.env0.make C us []) r2 hq) fun r s' hq' => ?_
  have e := ends_ok (P := fun u s' => PySem.W.InitBack (z + 1) (fun r s' => match r with | .ok (.ret v) => EP X pins σ Q v s' | .ok _ => False | .error e => X.xe e s') (.ok (.ret u)) s') I2 hq' fun u ⟨v, H', I3, rv, ev, q3⟩ => by
    subst ev
    exact ⟨rv, ⟨V.ref (z + 1), H', I3, rfl, q3⟩⟩
  cases r with
  | error _ => exact False.elim e
  | ok fl => cases fl <;> first | exact e | exact False.elim e
/-- a property, read -/
theorem prG {a dx : Addr} {fs : List (Str × V)} {n : Str} {b : Bool} {E' : Value → Shared → Prop} (ea : H a = some (.ins C dx fs)) (c : Cls X.K C) (hp : PropOf X.K C n p g) (F : FnG X.prog X.w X.K X.mg X.base k g sp) (hr : Rs k X.A) (I : Inv X pins σ H s) (h : sp [.ref a] H Q (fun _ _ _ => False)) :
    wpAny (model X.prog X.w) X.A (getAttr (.ref a) n b) (EP X pins σ Q) E' s := by
  obtain ⟨_, O, _⟩ := ins_get I.hok ea
  obtain ⟨od, J, _⟩ := O.look
  obtain ⟨rest, hrec⟩ := hp.rec_
  have hc : (PySem.W.clsIn X.K C).isSome = true := by
    obtain ⟨cd, hc, _⟩ := PySem.W.any_some c.hd
    rw [hc]
    rfl
  have pg := PySem.W.plainGet_of (c.get n)
  have I1 := I.tok (s.toks + 1)
  refine PySem.W.get_bind I.kIn J pg.1 (PySem.W.findObj_data hc hp.at_ hp.get hp.tak) pg.2 (wpAny_call (PySem.W.prop_get (s := { s with toks := s.toks + 1 }) I.kIn hrec ?_))
  refine codeAny_mono (F X.A.in1 X.stack _ H [.ref a] [.ref a] Q _ hr.in1 I1.env0.in1 (.cons rfl .nil) h) fun r s' hq => ?_
  have e := ends_ok (P := fun u s' => wpAny (model X.prog X.w) X.A (handedOut u) (EP X pins σ Q) E' s') I1 hq fun u ⟨v, H', I3, rv, q3⟩ => by
    rw [PySem.W.handedOut_of (handed_of rv)]
    exact wpAny_pure ⟨v, H', I3, rv, q3⟩
  cases r with
  | error _ => exact False.elim e
  | ok fl => cases fl <;> first | exact e | exact False.elim e
/-- str(o) by the class's own -/
theorem stG {a dx : Addr} {fs : List (Str × V)} {E' : Value → Shared → Prop} (ea : H a = some (.ins C dx fs)) (hs : PySem.W.findIn X.K (.ref C) "__str__" = some (some (.ref g))) (hf : PySem.W.isFn X.K (.ref g) = true) (F : FnG X.prog X.w X.K X.mg X.base k g sp) (hr : Rs k X.A) (I : Inv X pins σ H s)
    (h : sp [.ref a] H (fun v H' => ∃ y, v = .str y ∧ Q v H') (fun _ _ _ => False)) : wpAny (model X.prog X.w) X.A (call (.type "str") [.ref a]) (EP X pins σ Q) E' s := by
  obtain ⟨_, O, _⟩ := ins_get I.hok ea
  obtain ⟨od, J, _⟩ := O.look
  refine PySem.W.kso_call (by have := hr.un; show X.A.units + 1 + 1 < _; omega) I.kIn J hs hf (wpAny_call ?_)
  refine codeAny_mono (F X.A.in1.in1 X.stack s H [.ref a] [.ref a] _ _ hr.in2 I.env0.in1.in1 (.cons rfl .nil) h) fun r s' hq => ?_
  have e := ends_ok (P := fun u s' => ∃ y t, u = .str y t ∧ EP X pins σ Q u s') I hq fun u ⟨v, H', I3, rv, y, ey, q3⟩ => by
    subst ey
    obtain ⟨t, rfl⟩ := rv
    exact ⟨y, t, rfl, .str y, H', I3, ⟨t, rfl⟩, q3⟩
  cases r with
  | error _ => exact False.elim e
  | ok fl =>
    cases fl with
    | ret u => obtain ⟨y, t, rfl, q⟩ := e; exact q
    | next => exact False.elim e
    | brk => exact False.elim e
    | cont => exact False.elim e
/-- a bound classmethod, called -/
theorem cmG {q : Addr} (F : FnG X.prog X.w X.K X.mg X.base k g sp) (hr : Rm k X.A) (I : Inv X ((q, PySem.W.methodObj (.ref g) (.ref C)) :: pins) σ H s) (r : Vals vs us) (h : sp (.ref C :: vs) H Q (fun _ _ _ => False)) :
    wpAny (model X.prog X.w) X.A (call (.ref q) us) (EP X pins σ Q) X.xe s := by
  have z : wpAny (model X.prog X.w) X.A (call (.ref q) us) (EP X ((q, PySem.W.methodObj (.ref g) (.ref C)) :: pins) σ Q) X.xe s :=
    wpAny_call (PySem.W.method_call (pin_at I) (run_fnG (us := .ref C :: us) (vs := .ref C :: vs) F hr I (.cons rfl r) h))
  exact thn z fun _ _ y => unpinE y
end
end EV

set_option Elab.async false
set_option linter.all false
set_option maxRecDepth 100000
set_option maxHeartbeats 8000000
namespace EV
open PySem PySem.Spec PyProof.Rows L2 ClX StX
section
variable {C : Cn} {ρ : Rho} {H : Hp} {h : MH} {d : D} {v : V}
theorem ins_at {c : Nat} {fs : List (Nat × D)} (hr : HR C ρ H h) (e : insD h d = some (c, fs)) (r : RD C ρ H d v) : ∃ a dx fvs, v = .ref a ∧ H a = some (.ins (C.cA c) dx fvs) ∧ fs.map (fun q => C.fN q.1) = fvs.map (·.1) ∧ RDs C ρ H (fs.map (·.2)) (fvs.map (·.2)) := by
  cases r with
  | obj a b c' d' => cases e; exact ⟨_, _, _, rfl, a, c', d'⟩
  | @adr n a q =>
    have e' : (match h[n]? with | some (.ins c fs) => some (c, fs) | _ => none) = some (c, fs) := e
    split at e'
    · rename_i c2 f2 hy
      cases e'
      obtain ⟨u, h1, dx, fvs, rfl, h3, h4⟩ := hr.obj _ _ _ q hy
      exact ⟨a, dx, fvs, rfl, h1, h3, h4⟩
    · cases e'
  | _ => cases e
/-- a field, by its name -/
theorem fld_at {f : Nat} {ok : Nat → Bool} (inj : ∀ g, ok g = true → C.fN f = C.fN g → f = g) : ∀ {fs : List (Nat × D)} {fvs : List (Str × V)} {x : D}, fs.all (fun q => ok q.1) = true → fs.map (fun q => C.fN q.1) = fvs.map (·.1) → RDs C ρ H (fs.map (·.2)) (fvs.map (·.2)) → fs.lookup f = some x → ∃ y, fvs.lookup (C.fN f) = some y ∧ RD C ρ H x y
  | [], _, _, _, _, _, e => by cases e
  | (g, x1) :: fs, [], _, _, e1, _, _ => by cases e1
  | (g, x1) :: fs, (n, y1) :: fvs, x, ha, e1, rs, e => by
    rw [List.all_cons, Bool.and_eq_true] at ha
    injection e1 with e2 e3
    have e2 : C.fN g = n := e2
    cases rs with
    | cons r rs =>
      rw [List.lookup_cons] at e
      rw [List.lookup_cons]
      by_cases hf : f = g
      · subst hf
        rw [show (f == f) = true from beq_self_eq_true f] at e
        rw [show (C.fN f == n) = true by rw [e2]; exact beq_self_eq_true n]
        cases e
        exact ⟨y1, rfl, r⟩
      · have hn : ¬ C.fN f = n := fun z => hf (inj g ha.1 (z.trans e2.symm))
        rw [show (f == g) = false from beq_eq_false_iff_ne.mpr hf] at e
        rw [show (C.fN f == n) = false from beq_eq_false_iff_ne.mpr hn]
        exact fld_at inj ha.2 e3 rs e
theorem put_at {f : Nat} {x : D} {y : V} {ok : Nat → Bool} (inj : ∀ g, ok g = true → C.fN f = C.fN g → f = g) (r0 : RD C ρ H x y) : ∀ {fs : List (Nat × D)} {fvs : List (Str × V)}, fs.all (fun q => ok q.1) = true → fs.map (fun q => C.fN q.1) = fvs.map (·.1) → RDs C ρ H (fs.map (·.2)) (fvs.map (·.2)) →
    (putFd f x fs).map (fun q => C.fN q.1) = (putF (C.fN f) y fvs).map (·.1) ∧ RDs C ρ H ((putFd f x fs).map (·.2)) ((putF (C.fN f) y fvs).map (·.2))
  | [], [], _, _, _ => ⟨rfl, .cons r0 .nil⟩
  | [], _ :: _, _, e1, _ => by cases e1
  | _ :: _, [], _, e1, _ => by cases e1
  | (g, x1) :: fs, (n, y1) :: fvs, ha, e1, rs => by
    rw [List.all_cons, Bool.and_eq_true] at ha
    injection e1 with e2 e3
    have e2 : C.fN g = n := e2
    cases rs with
    | cons r rs =>
      unfold putFd putF
      by_cases hf : g = f
      · subst hf
        rw [if_pos rfl, if_pos e2.symm]
        exact ⟨by rw [List.map_cons, List.map_cons, e3]; exact congrArg (· :: _) e2, .cons r0 rs⟩
      · have hn : ¬ n = C.fN f := fun z => hf (inj g ha.1 (e2.trans z).symm).symm
        rw [if_neg hf, if_neg hn]
        obtain ⟨k1, k2⟩ := put_at inj r0 ha.2 e3 rs
        exact ⟨by rw [List.map_cons, List.map_cons, k1]; exact congrArg (· :: _) e2, .cons r k2⟩
theorem setAll_RD : True := True.intro
end
section
variable {X : Cx} {C : Cn} {T : Tb} {O : Orc} {k : Nat} {pos p apos : Pos} {a b e1 : Expr} {es : List Expr} {sa sb : Sm} {ms : List Sm} {x : Str}
def attS (O : Orc) (f : Nat) (o : Sm) (σ : En) (h : MH) : Option (D × MH) := match o.v σ h with
  | some (x, h1) => match insD h1 x with
    | some (c, fs) => if O.okF c f && fs.all (fun q => O.okF c q.1) then (fs.lookup f).map fun v => (v, h1) else none
    | none => none
  | none => none
/-- o.f -/
theorem s_att {f : Nat} (G : Gd X C T O k) (ha : PE X a (tV C sa.v)) (hx : T.fN f = x) (hb : plainBase a = true) : PE X (.Attribute a x pos) (tV C (attS O f sa)) := by
  refine (pe_fld ha (base_ok hb)).imp fun σ H Q ⟨ρ, en, h, d, h', sr, hr, e, q⟩ => ?_
  unfold attS at e
  split at e
  · rename_i y h1 hy
    split at e
    · rename_i c fs hi
      split at e
      · rename_i hok
        rw [Bool.and_eq_true] at hok
        obtain ⟨w, e1, e2⟩ := Option.map_eq_some_iff.mp e
        cases e2
        refine ⟨ρ, en, h, y, _, sr, hr, hy, fun ρ1 H1 v x1 hr1 rv => ?_⟩
        obtain ⟨ad, dx, fvs, rfl, h2, h3, h4⟩ := ins_at hr1 hi rv
        obtain ⟨u, h5, h6⟩ := fld_at (C := C) (f := f) (fun g hg z => G.inj c f g hok.1 hg z) hok.2 h3 h4 e1
        have hfx : C.fN f = x := by rw [G.fN]; exact hx
        rw [hfx] at h5
        have hok1 := G.okF c f hok.1
        rw [hfx] at hok1
        exact ⟨ad, C.cA c, dx, fvs, u, rfl, h2, hok1.1, hok1.2, h5, q ρ1 H1 u x1 hr1 h6⟩
      · cases e
    · cases e
  · cases e
/-- o.f = e -/
theorem s_fset {f : Nat} {mo mv : ME} {o : Expr} {p2 : Pos} (G : Gd X C T O k) (ho : PE X o (tV C (sem O mo).v)) (hv : PE X a (tV C (sem O mv).v)) (hx : T.fN f = x) (hs : notComp a = true) : PS X (.Assign [.Attribute o x p2] a pos) (tS C (exec O (.fset mo f mv))) := by
  refine (ps_fld ho hv (swap_ok hs)).imp fun Dn σ H ⟨ρ, en, h, fl, en', h', sr, hr, e, q⟩ => ?_
  change (match (sem O mv).v en h with
    | some (v, h1) => match (sem O mo).v en h1 with
      | some (.adr n, h2) => match h2[n]? with
        | some (.ins c fs) => if decide (fs.length < 1000) && (O.okF c f && fs.all (fun q => O.okF c q.1)) then some (Fl.nx, en, h2.set n (.ins c (putFd f v fs))) else none
        | _ => none
      | _ => none
    | none => none) = some (fl, en', h') at e
  split at e
  · rename_i y h1 hy
    split at e
    · rename_i n h2 hn
      split at e
      · rename_i c fs hi
        split at e
        · rename_i hok
          simp only [Bool.and_eq_true, decide_eq_true_eq] at hok
          obtain ⟨hl, hok1, hok2⟩ := hok
          cases e
          refine ⟨ρ, en, h, y, h1, sr, hr, hy, fun ρ1 H1 v x1 hr1 rv => ⟨ρ1, en, h1, _, _, sr.mono x1, hr1, hn, fun ρ2 H2 u x2 hr2 ru => ?_⟩⟩
          cases ru with
          | @adr _ ad hnn =>
            obtain ⟨u0, h3, dx, fvs, rfl, h5, h6⟩ := hr2.obj _ _ _ hnn hi
            have hfx : C.fN f = x := by rw [G.fN]; exact hx
            have hokx := G.okF c f hok1
            rw [hfx] at hokx
            have hl2 : fvs.length < 1000 := by
              have := congrArg List.length h5
              simp only [List.length_map] at this
              omega
            refine ⟨ad, C.cA c, dx, fvs, rfl, h3, hokx.1, hokx.2, hl2, ?_⟩
            obtain ⟨k1, k2⟩ := put_at (C := C) (f := f) (fun g hg z => G.inj c f g hok1 hg z) (rv.mono x2) hok2 h5 h6
            rw [hfx] at k1 k2
            have xp := Ext.put (o := .ins (C.cA c) dx (putF x v fvs)) hr2 hnn
            exact q ρ2 _ ((x1.trans x2).trans xp) (hr2.put (u := .ins c (putFd f y fs)) hnn ⟨dx, _, rfl, k1, k2⟩) σ (sr.mono ((x1.trans x2).trans xp))
        · cases e
      · cases e
    · cases e
  · cases e
/-- the promise of an __init__, met at a new object -/
theorem mk_met {c f : Nat} {ρ : Rho} {H : Hp} {h h' : MH} {ds : List D} {d : D} {vs : List V} {Q : VK} (hr : HR C ρ H h) (rs : RDs C ρ H ds vs) (e : mkR c (O.call f) ds h = some (d, h')) (q : Ans C ρ H h' d Q) :
    ∀ y dx, H y = none → H dx = none → dx ≠ y → rCal C (O.call f) (.ref y :: vs) (upd (upd H dx (.own y)) y (.ins (C.cA c) dx [])) (fun v H2 => v = .non ∧ Q (.ref y) H2) (fun _ _ _ => False) := by
  intro y dx hy hdx hne
  unfold mkR at e
  split at e
  · rename_i h2 hc
    cases e
    have x1 := Ext.laid (o := .own y) hr hdx
    have hr1 := hr.laid (o := .own y) hdx
    have hy1 : upd H dx (.own y) y = none := by rw [upd_ne (Ne.symm hne)]; exact hy
    have x2 := Ext.pushed (o := .ins (C.cA c) dx []) hr1 hy1
    have hr2 := hr1.pushed (u := .ins c []) (o := .ins (C.cA c) dx []) hy1 ⟨dx, [], rfl, rfl, .nil⟩
    refine ⟨_, _, .adr h.length :: ds, .non, h', hr2, .cons (.adr (show (if h.length = h.length then some y else ρ h.length) = some y from if_pos rfl)) (rs.mono (x1.trans x2)), hc, fun ρ3 H3 v x3 hr3 rv => ?_⟩
    cases rv
    exact ⟨rfl, q ρ3 H3 _ ((x1.trans x2).trans x3) hr3 (.adr (x3.sub _ _ (show (if h.length = h.length then some y else ρ h.length) = some y from if_pos rfl)))⟩
  · cases e
def mkE (O : Orc) (c f : Nat) (ms : List Sm) (σ : En) (h : MH) : Option (D × MH) := if O.okX 0 c f then match evs ms σ h with
      | some (ds, h1) => mkR c (O.call f) ds h1
      | none => none
    else none
/-- C(e, ..) -/
theorem s_mk {c f : Nat} (G : Gd X C T O k) (hx : T.cN c = x) (hc : T.cD c = true) (hg : glB X.env.scope x = true) (hs : PA X (e1 :: es) (tL C ms)) (hn : (e1 :: es).all notStar = true) : PE X (.Call (.Name x p) (e1 :: es) [] pos) (tV C (mkE O c f ms)) := by
  refine ⟨fun pins s σ H Q I ⟨ρ, en, h0, d, h', sr, hr, e, q⟩ => ?_⟩
  unfold mkE at e
  split at e
  · rename_i hok
    have M := (G.okX c f).1 hok
    have hm := G.cls c hc
    rw [hx] at hm
    obtain ⟨g1, g2, _⟩ := gl_of hg
    split at e
    · rename_i ds h1 hds
      rw [List.all_cons, Bool.and_eq_true] at hn
      refine wpAny_Call_Name_kw (ld_glob I g1 hm ?_ g2)
      have hrun := hs.run pos pins s σ H (fun vs H1 => ∃ ρ1, Ext ρ H ρ1 H1 ∧ HR C ρ1 H1 h1 ∧ RDs C ρ1 H1 ds vs) I ⟨ρ, en, h0, ds, h1, sr, hr, hds, fun ρ1 H1 vs x1 hr1 rvs => ⟨ρ1, x1, hr1, rvs⟩⟩
      exact PySem.W.callWith_K (h₀ := X.base) I.ok.mod.kin M.kp (thn hrun fun us s1 ⟨vs, H1, I1, r, ρ1, x1, hr1, rvs⟩ => ⟨I1.kIn, mkG M (G.call f) G.rs I1 r (mk_met hr1 rvs e fun ρ2 H2 v x2 hr2 rv => q ρ2 H2 v (x1.trans x2) hr2 rv)⟩) (star_ok hn.1) (back_any hn.2)
    · cases e
  · cases e
/-- o(*e), o a class -/
theorem s_mkS {c f : Nat} {y : Str} {q0 sp : Pos} (G : Gd X C T O k) (ho : PE X (.Name y q0) (tV C sa.v)) (he : PE X a (tV C sb.v)) : PE X (.Call (.Name y q0) [.Starred a sp] [] pos) (tV C (fun σ h => if O.okX 0 c f then mkSS c (O.call f) sa sb σ h else none)) := by
  refine ⟨fun pins s σ H Q I ⟨ρ, en, h0, d, h', sr, hr, e, q⟩ => ?_⟩
  dsimp only at e
  split at e
  · rename_i hok
    have M := (G.okX c f).1 hok
    unfold mkSS at e
    split at e
    · rename_i c2 h1 hc
      split at e
      · rename_i hcc
        subst hcc
        split at e
        · rename_i dd h2 hd
          split at e
          · rename_i xs hxs
            have hrun := ho.run pins s σ H (fun v H1 => ∃ ρ1, Ext ρ H ρ1 H1 ∧ HR C ρ1 H1 h1 ∧ RD C ρ1 H1 (.cls c2) v) I ⟨ρ, en, h0, _, h1, sr, hr, hc, fun ρ1 H1 v x1 hr1 rv => ⟨ρ1, x1, hr1, rv⟩⟩
            refine wpAny_Call_Name_kw (thn hrun fun v s1 ⟨y1, H1, I1, r1, ρ1, x1, hr1, rv⟩ => ?_)
            cases rv
            cases r1
            have hrun2 := he.run pins s1 σ H1 (fun v H2 => ∃ ρ2, Ext ρ1 H1 ρ2 H2 ∧ HR C ρ2 H2 h2 ∧ RD C ρ2 H2 dd v) I1 ⟨ρ1, en, h1, dd, h2, sr.mono x1, hr1, hd, fun ρ2 H2 v x2 hr2 rv => ⟨ρ2, x2, hr2, rv⟩⟩
            refine PySem.W.callWith_S (h₀ := X.base) I1.ok.mod.kin M.kp (thn hrun2 fun v s2 ⟨y2, H2, I2, r2, ρ2, x2, hr2, rv2⟩ => ?_) rfl
            obtain ⟨ad, vs, rfl, hsq, rs⟩ := seq_at hr2 hxs rv2
            rw [← G.K] at hsq
            cases r2
            exact StX.star_any I2 hsq.symm fun us s3 I3 rv3 => ⟨I3.kIn, mkG M (G.call f) G.rs I3 rv3 (mk_met hr2 rs e fun ρ3 H3 v x3 hr3 rv => q ρ3 H3 v ((x1.trans x2).trans x3) hr3 rv)⟩
          · cases e
        · cases e
      · cases e
    · cases e
  · cases e
/-- a property -/
theorem s_prp {f : Nat} (G : Gd X C T O k) (ha : PE X a (tV C sa.v)) (hx : T.uN f = x) (hb : plainBase a = true) : PE X (.Attribute a x pos) (tV C (atO (fun c => O.okX 1 c f) (O.call f) sa)) := by
  refine ⟨fun pins s σ H Q I ⟨ρ, en, h0, d, h', sr, hr, e, q⟩ => ?_⟩
  unfold atO at e
  split at e
  · rename_i y h1 hy
    split at e
    · rename_i c fs hi
      split at e
      · rename_i hok
        obtain ⟨hc, pp, hp⟩ := (G.okX c f).2.1 hok
        rw [hx] at hp
        have hrun := ha.run pins s σ H (fun v H1 => ∃ ρ1, Ext ρ H ρ1 H1 ∧ HR C ρ1 H1 h1 ∧ RD C ρ1 H1 y v) I ⟨ρ, en, h0, y, h1, sr, hr, hy, fun ρ1 H1 v x1 hr1 rv => ⟨ρ1, x1, hr1, rv⟩⟩
        refine attr_of (base_ok hb) (thn hrun fun v s1 ⟨y1, H1, I1, r1, ρ1, x1, hr1, rv⟩ => ?_)
        obtain ⟨ad, dx, fvs, rfl, h2, _, _⟩ := ins_at hr1 hi rv
        cases r1
        exact prG h2 hc hp (G.call f) G.rs I1 ⟨ρ1, h1, [y], d, h', hr1, .cons rv .nil, e, fun ρ2 H2 v x2 hr2 rv2 => q ρ2 H2 v (x1.trans x2) hr2 rv2⟩
      · cases e
    · cases e
  · cases e
/-- str(o) -/
theorem s_sob {f : Nat} (G : Gd X C T O k) (ha : PE X a (tV C sa.v)) (hg : glB X.env.scope "str" = true) (hn : notStar a = true) : PE X (.Call (.Name "str" p) [a] [] pos) (tV C (fun σ h => strS (atO (fun c => O.okX 3 c f) (O.call f) sa σ h))) := by
  refine ⟨fun pins s σ H Q I ⟨ρ, en, h0, d, h', sr, hr, e, q⟩ => ?_⟩
  obtain ⟨g1, g2, g3⟩ := gl_of hg
  dsimp only at e
  have key : ∃ z, d = .str z ∧ atO (fun c => O.okX 3 c f) (O.call f) sa en h0 = some (.str z, h') := by
    unfold strS at e
    split at e
    · rename_i z h1 hz; cases e; exact ⟨z, rfl, hz⟩
    · cases e
  clear e
  obtain ⟨z, rfl, e⟩ := key
  unfold atO at e
  split at e
  · rename_i y h1 hy
    split at e
    · rename_i c fs hi
      split at e
      · rename_i hok
        obtain ⟨k1, k2⟩ := (G.okX c f).2.2.2 hok
        have hrun := ha.run pins s σ H (fun v H1 => ∃ ρ1, Ext ρ H ρ1 H1 ∧ HR C ρ1 H1 h1 ∧ RD C ρ1 H1 y v) I ⟨ρ, en, h0, y, h1, sr, hr, hy, fun ρ1 H1 v x1 hr1 rv => ⟨ρ1, x1, hr1, rv⟩⟩
        refine wpAny_Call_Name_kw (ld_blt I g1 (G.free _ (by decide +kernel)) (u := .type "str") (by decide +kernel) ?_ g3 g2)
        refine PyProof.Rows.callWith_type1 (PyProof.Rows.args_cons (thn hrun fun v s1 ⟨y1, H1, I1, r1, ρ1, x1, hr1, rv⟩ => PyProof.Rows.args_nil ?_) (star_ok hn)) (star_ok hn) rfl
        obtain ⟨ad, dx, fvs, rfl, h2, _, _⟩ := ins_at hr1 hi rv
        cases r1
        refine stG h2 k1 k2 (G.call f) G.rs I1 ⟨ρ1, h1, [y], .str z, h', hr1, .cons rv .nil, e, fun ρ2 H2 v x2 hr2 rv2 => ?_⟩
        cases rv2 with
        | str _ hs => exact ⟨_, rfl, q ρ2 H2 _ (x1.trans x2) hr2 (.str _ hs)⟩
      · cases e
    · cases e
  · cases e
end
end EV

set_option Elab.async false
set_option linter.all false
set_option maxRecDepth 100000
set_option maxHeartbeats 8000000
namespace EV
open PySem PySem.Spec PyProof.Rows L2 ClX StX
section
variable {X : Cx} {C : Cn} {T : Tb} {O : Orc} {k : Nat} {pos p apos : Pos} {a b e1 : Expr} {es : List Expr} {sa sb : Sm} {ms : List Sm} {x m : Str}
/-- o.m(e, ..): the node, the method found as getMethod finds it -/
theorem meth_node {M : Model} {A : Around} {E : Value → Shared → Prop} {s : Shared} {Q : Value → Shared → Prop} {env : Env} {o : Expr} (hb : plainBase o = true) (hf : methodCallForm ((e1 :: es).length + ([] : List Keyword).length) (backTo pos (starEach (e1 :: es) env)) (backToKw pos (keywordEach [] env)) = true) (hl : (apos.endLine == pos.line) = true)
    (h : wpAny M A (eval o env) (fun ov s1 => wpAny M A (getMethod ov m (do return (← importBound o env).getD true)) (fun fx s2 => wpAny M A (callWith pos fx.1 fx.2 (backTo pos (starEach (e1 :: es) env)) []) Q E s2) E s1) E s) : wpAny M A (eval (.Call (.Attribute o m apos) (e1 :: es) [] pos) env) Q E s := by
  rw [arm_eval_Call, base_ok hb]
  refine wpAny_bind (wpAny_mono h (fun ov s1 h1 => wpAny_bind (wpAny_standAt ?_)) fun _ _ x => x)
  unfold methodCall
  rw [hf]
  refine wpAny_bind (wpAny_holding ?_)
  show wpAny M A (getMethod ov m (do return (← importBound o env).getD true)) _ E _
  refine wpAny_mono h1 (fun fx s2 h2 => ?_) fun _ _ x => x
  have hp : methodCallPos true o env apos pos = pure pos := by unfold methodCallPos; rw [hl]; rfl
  exact wpAny_bind (wpAny_of_eq hp h2)
def cmE (O : Orc) (c f : Nat) (ms : List Sm) (σ : En) (h : MH) : Option (D × MH) := if O.okX 2 c f then match evs ms σ h with
      | some (ds, h1) => O.call f (.cls c :: ds) h1
      | none => none
    else none
/-- C.m(e, ..), m a classmethod -/
theorem s_cmt {c f : Nat} {q0 : Pos} (G : Gd X C T O k) (hx : T.cN c = x) (hc : T.cD c = true) (hg : glB X.env.scope x = true) (hm : T.uN f = m) (hs : PA X (e1 :: es) (tL C ms)) (hn : (e1 :: es).all notStar = true) (hl : (e1 :: es).length < 29) (hli : (apos.endLine == pos.line) = true) : PE X (.Call (.Attribute (.Name x q0) m apos) (e1 :: es) [] pos) (tV C (cmE O c f ms)) := by
  refine ⟨fun pins s σ H Q I ⟨ρ, en, h0, d, h', sr, hr, e, q⟩ => ?_⟩
  unfold cmE at e
  split at e
  · rename_i hok
    obtain ⟨mc, pp, k1, k2⟩ := (G.okX c f).2.2.1 hok
    rw [hm] at k2
    have hmg := G.cls c hc
    rw [hx] at hmg
    obtain ⟨g1, g2, _⟩ := gl_of hg
    split at e
    · rename_i ds h1 hds
      have fw := few_ok (pos := pos) (env := X.env) hn hl
      rw [List.all_cons, Bool.and_eq_true] at hn
      refine meth_node rfl fw hli (ld_glob I g1 hmg ?_ g2)
      refine getmethcm_ok I k1 k2 fun s2 I2 => ?_
      have hrun := hs.run pos ((s.heap.objs.size, PySem.W.methodObj (.ref (C.fA f)) (.ref (C.cA c))) :: pins) s2 σ H (fun vs H1 => ∃ ρ1, Ext ρ H ρ1 H1 ∧ HR C ρ1 H1 h1 ∧ RDs C ρ1 H1 ds vs) I2 ⟨ρ, en, h0, ds, h1, sr, hr, hds, fun ρ1 H1 vs x1 hr1 rvs => ⟨ρ1, x1, hr1, rvs⟩⟩
      refine callwith_cm I2 (base_none I (Nat.le_refl _)) k2.fi (thn hrun fun us s3 ⟨vs, H2, I3, rv, ρ1, x1, hr1, rvs⟩ => ⟨⟨pin_at I3, I3.kIn⟩, ?_⟩) (star_ok hn.1) (back_any hn.2)
      exact cmG (G.call f) G.rm I3 rv ⟨ρ1, h1, .cls c :: ds, d, h', hr1, .cons (.cls c) rvs, e, fun ρ2 H2 v x2 hr2 rv2 => q ρ2 H2 v (x1.trans x2) hr2 rv2⟩
    · cases e
  · cases e
/-! ### f-strings -/
/-- a part: its text -/
theorem okS_size {z : S} (h : okS z = true) : z.length ≤ sizeLine := Nat.le_trans (of_decide_eq_true (Bool.and_eq_true_iff.mp h).1) (by decide)
def tF (C : Cn) (v : En → MH → Option (D × MH)) : TE := fun σ H Q => ∃ ρ en h d h' y, SR C ρ H σ en ∧ HR C ρ H h ∧ v en h = some (d, h') ∧ fpart d = some y ∧ ∀ ρ' H', Ext ρ H ρ' H' → HR C ρ' H' h' → Q (.str (mk y)) H'
theorem s_fcst {z : S} {x : Str} {kk : Nat} (hz : mk z = x) : PE X (.Constant (.str x) kk pos) (tF C (sem O (.cst (.str z))).v) := by
  subst hz
  refine pe_str.imp fun σ H Q ⟨ρ, en, h, d, h', y, sr, hr, e, hy, q⟩ => ?_
  have e : some (D.str z, h) = some (d, h') := e
  cases e
  have hy : some z = some y := hy
  cases hy
  exact q ρ H (Ext.refl _ _) hr
theorem s_fval (ha : PE X a (tV C sa.v)) : PE X (.FormattedValue a (-1) none pos) (tF C sa.v) := by
  refine (pe_fmt ha).imp fun σ H Q ⟨ρ, en, h, d, h', y, sr, hr, e, hy, q⟩ => ?_
  refine ⟨ρ, en, h, d, h', sr, hr, e, fun ρ1 H1 v x1 hr1 rv => ?_⟩
  cases rv with
  | str s hs =>
    have hy : some _ = some y := hy
    cases hy
    refine .inl ⟨_, rfl, ?_, q ρ1 H1 x1 hr1⟩
    rw [mk_len]
    exact okS_size hs
  | int i =>
    have hy : (if decide (0 ≤ i ∧ i < 1000000000) then some (numI i) else none) = some y := hy
    split at hy
    · rename_i hb
      cases hy
      have hb := of_decide_eq_true hb
      refine .inr ⟨i, rfl, ?_, ?_⟩
      · exact log_small hb
      · rw [numI_str hb.1]
        exact q ρ1 H1 x1 hr1
    · cases hy
  | _ => cases hy
def fJn (ms : List Sm) (σ : En) (h : MH) : Option (D × MH) := match fjoin ms [] σ h with
    | some (s, h1) => some (.str s, h1)
    | none => none
theorem js_ok : ∀ {ms : List Sm} {acc : S} {ρ : Rho} {σ : L2.St} {H : Hp} {en : En} {h : MH} {s : S} {h' : MH} {Q : Str → Hp → Prop}, SR C ρ H σ en → HR C ρ H h → fjoin ms acc en h = some (s, h') → (∀ ρ' H', Ext ρ H ρ' H' → HR C ρ' H' h' → Q (mk s) H') → tJs (ms.map fun m => tF C m.v) (mk acc) σ H Q
  | [], acc, ρ, σ, H, en, h, s, h', Q, sr, hr, e, q => by
    cases e
    exact q ρ H (Ext.refl _ _) hr
  | m :: ms, acc, ρ, σ, H, en, h, s, h', Q, sr, hr, e, q => by
    unfold fjoin at e
    split at e
    · rename_i d h1 hd
      split at e
      · rename_i y hy
        split at e
        · rename_i ho
          refine ⟨ρ, en, h, d, h1, y, sr, hr, hd, hy, fun ρ1 H1 x1 hr1 => ⟨mk y, rfl, ?_, ?_⟩⟩
          · rw [mk_app, mk_len]
            exact okS_size ho
          · rw [mk_app]
            exact js_ok (sr.mono x1) hr1 e fun ρ2 H2 x2 hr2 => q ρ2 H2 (x1.trans x2) hr2
        · cases e
      · cases e
    · cases e
theorem fjoin_ok : ∀ {ms : List Sm} {acc : S} {en : En} {h : MH} {s : S} {h' : MH}, fjoin ms acc en h = some (s, h') → okS acc = true → okS s = true
  | [], _, _, _, _, _, e, ha => by cases e; exact ha
  | m :: ms, acc, en, h, s, h', e, ha => by
    unfold fjoin at e
    split at e
    · split at e
      · split at e
        · rename_i ho
          exact fjoin_ok e ho
        · cases e
      · cases e
    · cases e
theorem s_fst {v1 v2 : Expr} {rest : List Expr} (h : PJ X (v1 :: v2 :: rest) (ms.map fun m => tF C m.v)) : PE X (.JoinedStr (v1 :: v2 :: rest) pos) (tV C (fJn ms)) := by
  refine (pe_joined h).imp fun σ H Q ⟨ρ, en, h, d, h', sr, hr, e, q⟩ => ?_
  unfold fJn at e
  split at e
  · rename_i s h1 hs
    cases e
    exact js_ok (acc := []) sr hr hs fun ρ1 H1 x1 hr1 => q ρ1 H1 _ x1 hr1 (.str _ (fjoin_ok hs rfl))
  · cases e
end
end EV

set_option Elab.async false
set_option linter.all false
set_option maxRecDepth 100000
set_option maxHeartbeats 8000000
namespace EV
open PySem PySem.Spec PyProof.Rows L2 ClX StX
/-! ### a, b, *c = a tuple -/
theorem star_items {prog : Program} {w : World} {A : Around} {E : Value → Shared → Prop} {s : Shared} {t : Addr} {items : Array Value} {n : Nat} {Q : List Value → Shared → Prop} (hh : A.handled = none) (ht : IsTup s.heap t items) (hn : n ≤ items.size) (hz : items.size ≤ sizeLine)
    (hQ : ∀ h' tk D, (∀ b o, s.heap.get? b = some o → h'.get? b = some o) → s.heap.get? D = none → h'.get? D = some { cls := .type "list", data := .seq (items.toList.drop n).toArray } → Q (items.toList.take n ++ [.ref D]) { s with heap := h', toks := tk }) :
    wpAny (model prog w) A (unpackItems (.ref t) (n + 1) (some n)) Q E s := by
  have hlt : t ≠ s.heap.objs.size := let ⟨_, ho, _⟩ := ht; Nat.ne_of_lt (Heap.lt_size ho)
  unfold unpackItems
  refine wpAny_bind ?_
  unfold notIterableAtAll
  refine wpAny_bind (wpAny_specialOf ht.typeIs slot_tuple_iter.lookup (wpAny_pure ?_))
  simp only [Bool.false_eq_true, if_false]
  refine wpAny_bind (wpAny_holding (iter_tuple ht (wpAny_bind (wpAny_holding (draw_tuple hlt n 0 _ _ ⟨_, Heap.get?_push_size _ rfl, rfl, rfl⟩ (ht.push _) (by omega) fun h1 hit hs1 => ?_)))))
  rw [Nat.zero_add] at hit
  have ht1 : IsTup h1 t items := (ht.push _).extBut hs1.extBut hlt
  obtain ⟨oi, hoi, _⟩ := id hit
  obtain ⟨ol, hol, _⟩ := id ht1
  rw [List.drop_zero]
  have hfl : (items.toList.take n).length = n := by rw [List.length_take, Array.length_toList]; omega
  rw [if_neg (by rw [hfl]; exact Nat.lt_irrefl n)]
  refine wpAny_bind (wpAny_holding (PySem.W.kun_collect (s := { s with heap := h1 }) (T := "tuple_iterator") (.inr (.inr (.inr rfl))) (Walks.tuple (A := A.in1) hh s.heap.objs.size t hlt items) (fun j u st => st.1.typeIs) (k := n) hn ⟨hit, ht1⟩ (Heap.lt_size hoi) (Heap.lt_size hol) (fun h2 tk hk => ?_) hz))
  have e0 : n + 1 - 1 - n = 0 := by omega
  rw [e0]
  show wpAny _ _ (if (items.toList.drop n).length < 0 then _ else _) _ _ _
  rw [if_neg (Nat.not_lt_zero _), Nat.sub_zero]
  have keep : ∀ b o, s.heap.get? b = some o → h2.get? b = some o := fun b o e => hk b o (Nat.ne_of_lt (Heap.lt_size e)) (hs1.extBut b o (Nat.ne_of_lt (Heap.lt_size e)) (Heap.get?_push_of_some _ e))
  have big : s.heap.get? h2.objs.size = none := by
    cases z : s.heap.get? h2.objs.size with
    | none => rfl
    | some o => exact absurd (Heap.lt_size (keep _ o z)) (Nat.lt_irrefl _)
  refine wpAny_bind (m := newList ((items.toList.drop n).take (items.toList.drop n).length)) (wpAny_newObj_type (wpAny_pure ?_) ?_)
  · rw [List.take_of_length_le (Nat.le_refl _), List.drop_of_length_le (Nat.le_refl _), List.append_nil]
    exact hQ _ tk _ (fun b o e => Heap.get?_push_of_some _ (keep b o e)) big (Heap.get?_push_size _ rfl)
  · show ((items.toList.drop n).take (items.toList.drop n).length).toArray.size ≤ sizeLine
    rw [List.take_of_length_le (Nat.le_refl _), List.size_toArray, List.length_drop, Array.length_toList]
    omega
theorem obj_live {P : Program} {w : World} {H : Hp} {h : Heap} {a : Addr} {o : HO} (x : ObjOk P w H h a o) : ∃ u, h.get? a = some u := by
  cases o with
  | lst xs => let ⟨_, _, _, _, e⟩ := x; exact ⟨_, e⟩
  | tup xs => let ⟨_, _, _, p⟩ := x; exact ⟨_, p.choose_spec.1⟩
  | dK kvs => let ⟨_, _, _, _, o, _, _, e, _⟩ := x; exact ⟨o, e⟩
  | dT kvs => let ⟨_, _, _, _, o, _, _, e, _⟩ := x; exact ⟨o, e⟩
  | set S n => let ⟨o, _, _, _, e, _⟩ := x; exact ⟨o, e⟩
  | ins C dx fs => let ⟨_, _, _, e, _⟩ := x; exact ⟨_, e⟩
  | own y => exact x
  | xd fs => let ⟨_, ⟨o, _, _, e, _⟩, _⟩ := x; exact ⟨o, e⟩
  | rng lo hi => let ⟨_, _, _, e⟩ := x; exact ⟨_, e⟩
  | frz ob u => exact ⟨_, x.1⟩
  | tbl ps => exact ⟨_, x⟩
  | met f y => exact ⟨_, x⟩
  | ext φ => exact x.2.1
theorem fresh_dead {P : Program} {w : World} {H : Hp} {h : Heap} {a : Addr} (x : HOk P w H h) (hd : h.get? a = none) : H a = none := by
  cases z : H a with
  | none => rfl
  | some u =>
    obtain ⟨o, e⟩ := obj_live (x a u z)
    rw [hd] at e
    cases e
/-- an object laid where none lives -/
theorem laid_dead {X : Cx} {pins : List (Addr × Obj)} {σ : L2.St} {H : Hp} {s : Shared} {h' : Heap} {a : Addr} {o : HO} {t' : Nat} (I : Inv X pins σ H s) (k : ∀ b u, s.heap.get? b = some u → h'.get? b = some u) (hd : s.heap.get? a = none) (new : ObjOk X.prog X.w (upd H a o) h' a o) :
    Inv X pins σ (upd H a o) { s with heap := h', toks := t' } := by
  have hn := fresh_dead I.hok hd
  have ne : ∀ {b : Addr} {u : HO}, H b = some u → b ≠ a := fun q => ne_of_none q hn
  refine I.un ⟨fun b u q _ _ _ => k b u q, fun b u q _ _ _ => ⟨u.slots, k b u q⟩, fun b u q n _ => ?_, fun b u q _ => ⟨u, k b u q⟩, fun b xs q => ?_, fun b u xs q => ?_, fun b ps q => ⟨#[], ?_⟩⟩ fun b u e => ?_
  · have : b ≠ a := fun z => by subst z; rw [hd] at q; cases q
    rw [upd_ne this]
    exact n
  · rw [upd_ne (ne q)]; exact q
  · rw [upd_ne (ne q)]; exact q
  · rw [upd_ne (ne q), q]; simp
  · by_cases hb : b = a
    · subst hb
      rw [upd_same] at e
      cases e
      exact new
    · rw [upd_ne hb] at e
      exact (I.hok b u e).stay (fun c v _ q => k c v q) (fun c q => by rw [upd_ne (ne q)]; exact q) fun c xs q => by rw [upd_ne (ne q)]; exact q
section
variable {X : Cx} {C : Cn} {T : Tb} {O : Orc} {k : Nat} {pos p apos : Pos} {a b e1 : Expr} {es : List Expr} {sa sb : Sm} {ms : List Sm} {x m : Str}
theorem star_look {y : Str} {py sp : Pos} : ∀ {es : List Expr} {is : List Nat}, NmS X es is → (assignEach (es ++ [.Starred (.Name y py) sp]) X.env).length = is.length + 1 ∧ (assignEach (es ++ [.Starred (.Name y py) sp]) X.env).findIdx? (·.1) = some is.length ∧
    (assignEach (es ++ [.Starred (.Name y py) sp]) X.env).map (·.2) = (assignEach (es ++ [.Name y py]) X.env).map (·.2)
  | _, _, .nil => ⟨rfl, rfl, rfl⟩
  | _, _, @NmS.cons _ x p i es is h r => by
    obtain ⟨h1, h2, h3⟩ := star_look r
    refine ⟨?_, ?_, ?_⟩
    · show ((false, assign (.Name x p) X.env) :: assignEach (es ++ [.Starred (.Name y py) sp]) X.env).length = _
      rw [List.length_cons, h1, List.length_cons]
    · show ((false, assign (.Name x p) X.env) :: assignEach (es ++ [.Starred (.Name y py) sp]) X.env).findIdx? (·.1) = _
      rw [List.findIdx?_cons, h2]
      rfl
    · show ((false, assign (.Name x p) X.env) :: assignEach (es ++ [.Starred (.Name y py) sp]) X.env).map (·.2) = ((false, assign (.Name x p) X.env) :: assignEach (es ++ [.Name y py]) X.env).map (·.2)
      rw [List.map_cons, List.map_cons, h3]
theorem NmS.app : ∀ {es es2 : List Expr} {is is2 : List Nat}, NmS X es is → NmS X es2 is2 → NmS X (es ++ es2) (is ++ is2)
  | _, _, _, _, .nil, h => h
  | _, _, _, _, .cons h r, h2 => .cons h (NmS.app r h2)
def gStr (K : PySem.W.Frag) (is : List Nat) : TG := fun v σ H Q => ∃ ad vs, v = .ref ad ∧ SqT K H ad vs ∧ is.length ≤ vs.length + 1 ∧ 1 ≤ is.length ∧ ∀ D, H D = none → gNms is (vs.take (is.length - 1) ++ [.ref D]) σ (upd H D (.lst (vs.drop (is.length - 1)))) Q
theorem pg_star {is : List Nat} {j kk : Nat} {y : Str} {py sp : Pos} (hc : X.calm = true) (nd : X.N.Nodup) (h1 : NmS X es is) (h2 : NmS X [.Name y py] [j]) : PG X (.Tuple (es ++ [.Starred (.Name y py) sp]) kk p) (gStr X.K (is ++ [j])) := by
  refine ⟨fun pins s σ H v u Q I r ⟨ad, vs, e1, hq, hl, hl1, hw⟩ => ?_⟩
  subst e1
  cases r
  obtain ⟨its, rv, ht, hz⟩ := I.tuple hq
  obtain ⟨k1, k2, k3⟩ := star_look (y := y) (py := py) (sp := sp) h1
  have el : (is ++ [j]).length - 1 = is.length := by simp
  rw [el] at hw
  have hle : is.length ≤ vs.length := by simp at hl; omega
  have hsz : its.toArray.size = vs.length := by rw [List.size_toArray, rv.length]
  rw [PyProof.Rows.assign_Tuple]
  refine wpAny_bind (wpAny_standAt ?_)
  unfold unpack
  rw [k1, k2, k3]
  refine wpAny_bind (wpAny_holding (star_items (I.ok.hd hc) ht (by omega) (by rw [hsz]; exact hz) fun h' tk D keep big hD => ?_))
  have hn : H D = none := fresh_dead I.hok big
  have I1 : Inv X pins σ (upd H D (.lst (vs.drop is.length))) { s with heap := h', toks := tk } := by
    refine laid_dead I keep big ⟨?_, _, 0, ?_, hD⟩
    · rw [List.length_drop]; omega
    · show Vals (vs.drop is.length) ((its.toArray.toList).drop is.length)
      rw [List.toList_toArray]
      exact rv.drop _
  refine ((h1.app h2).pgs nd).run pins _ σ _ (vs.take is.length ++ [.ref D]) _ Q I1 ?_ (hw D hn)
  rw [List.toList_toArray]
  exact (rv.take _).append (.cons rfl .nil)
theorem s_ast {is : List Nat} {j kk : Nat} {y : Str} {py sp : Pos} {mv : ME} (G : Gd X C T O k) (nd : X.N.Nodup) (h1 : NmS X es is) (h2 : NmS X [.Name y py] [j]) (hv : PE X a (tV C (sem O mv).v)) (hs : notComp a = true) (hw : notTup a = true) :
    PS X (.Assign [.Tuple (es ++ [.Starred (.Name y py) sp]) kk p] a pos) (tS C (exec O (.ast is j mv))) := by
  refine (ps_asg hv (pg_star G.calm nd h1 h2) (sole_ok hs) (stores_tup hw) rfl).imp fun Dn σ H ⟨ρ, en, h, fl, en', h', sr, hr, e, q⟩ => ?_
  change (match (sem O mv).v en h with
    | some (.tup xs, h1) => if is.length ≤ xs.length then match setAll (is ++ [j]) (xs.take is.length ++ [.lst (xs.drop is.length)]) en with
        | some σ1 => some (Fl.nx, σ1, h1)
        | none => none
      else none
    | _ => none) = some (fl, en', h') at e
  split at e
  · rename_i xs h1' hx
    split at e
    · rename_i hl
      split at e
      · rename_i σ1 hset
        cases e
        refine ⟨ρ, en, h, .tup xs, _, sr, hr, hx, fun ρ1 H1 v x1 hr1 rv => ?_⟩
        obtain ⟨ad, vs, rfl, hsq, rs⟩ := tup_at rv
        rw [← G.K] at hsq
        have el : (is ++ [j]).length - 1 = is.length := by simp
        have hlen := rs.len
        refine ⟨ad, vs, rfl, hsq, by simp; omega, by simp, fun D hD => ?_⟩
        rw [el]
        have xl := Ext.laid (o := .lst (vs.drop is.length)) hr1 hD
        have hr2 := hr1.laid (o := .lst (vs.drop is.length)) hD
        have off : Off ρ1 D := hr1.fresh hD
        have r2 : RDs C ρ1 (upd H1 D (.lst (vs.drop is.length))) (xs.take is.length ++ [.lst (xs.drop is.length)]) (vs.take is.length ++ [.ref D]) :=
          ((rs.mono xl).take _).app (.cons (.lst upd_same off ((rs.mono xl).drop _)) .nil)
        obtain ⟨s1, s2⟩ := SR.setAll (sr.mono (x1.trans xl)) r2 hset
        exact gNms_ok s2 (q ρ1 _ (x1.trans xl) hr2 _ s1)
      · cases e
    · cases e
  · cases e
end
end EV

set_option Elab.async false
set_option linter.all false
set_option maxRecDepth 100000
set_option maxHeartbeats 8000000
namespace EV
open PySem PySem.Spec PyProof.Rows L2 ClX StX
/-! ### enumerate over a tuple -/
theorem meets_enum1 {v : Value} {o : Obj} {H : Heap → Prop} (B : Begins v o H) :
    Meets (Builtin.«enumerate.__new__» ⟨[.type "enumerate", v], []⟩) (fun _ R s => H s.heap ∧
      R (.ok (.ret (.ref (s.heap.push o).objs.size))) { s with heap := (s.heap.push o).push { cls := .type "enumerate", data := .fields #[.none, .bool false, .ref s.heap.objs.size, rawInt 0, .none, .none] } }) :=
  .of_wp fun prog w A R s h => by
    obtain ⟨hp, g, d, tk, os⟩ := s
    obtain ⟨h1, h⟩ := h
    have hsub := sub_enumerate
    have q1 : ∀ {A' : Around} {E : Value → Shared → Prop} {Q : Value → Shared → Prop}, Q (.ref hp.objs.size) ⟨hp.push o, g, d, tk, os⟩ → wpAny (model prog w) A' (pyIter v) Q E ⟨hp, g, d, tk, os⟩ := fun q => B.iter prog w _ _ ⟨hp, g, d, tk, os⟩ _ h1 q
    wp_walk using q1
    refine wpAny_stack_any fun st => wpAny_pure ?_
    split
    · rename_i c _ _ _ _ _
      cases (c == Value.type "enumerate")
      · wp_walk using q1
        exact ⟨_, rfl, h⟩
      · wp_walk using q1
        exact ⟨_, rfl, h⟩
    · wp_walk using q1
      exact ⟨_, rfl, h⟩
theorem enum_1 {prog : Program} {w : World} {A : Around} {E : Value → Shared → Prop} {s : Shared} {v : Value} {o : Obj} {H : Heap → Prop} {Q : Value → Shared → Prop} (B : Begins v o H) (h1 : H s.heap)
    (h : ∀ h', IsEnum h' (s.heap.objs.size + 1) s.heap.objs.size 0 .none → h'.get? s.heap.objs.size = some o → (∀ b u, s.heap.get? b = some u → h'.get? b = some u) → Q (.ref (s.heap.objs.size + 1)) { s with heap := h' }) :
    wpAny (model prog w) A (call (.type "enumerate") [v]) Q E s := by
  refine callType_new F.called_enumerate (by decide) (F.typeCall_enumerate_1 _) (F.newCall_enumerate_1 _) (fun obj => F.args_object_init_2 obj _) F.entry_enumerate_new (meets_enum1 B) ⟨h1, ?_⟩
  have hz : (s.heap.push o).objs.size = s.heap.objs.size + 1 := Heap.size_push ..
  show _ ∧ _
  rw [hz]
  have he := Heap.get?_push_size (s.heap.push o) (o := { cls := .type "enumerate", data := .fields #[.none, .bool false, .ref s.heap.objs.size, rawInt 0, .none, .none] }) rfl
  rw [hz] at he
  exact ⟨⟨_, he, rfl⟩, h _ he (Heap.get?_push_of_some _ (Heap.get?_push_size _ B.free)) fun b u x => Heap.get?_push_of_some _ (Heap.get?_push_of_some _ x)⟩
def Itu (K : PySem.W.Frag) (a : Addr) : It :=
  ⟨fun i H => ∃ (xs : List V) (x : V), SqT K H a xs ∧ xs[i]? = some x, fun i H v H' => ∃ T x, v = .ref T ∧ H T = none ∧ H' = upd H T (.tup [.int (i : Nat), x]) ∧ ∀ xs, SqT K H a xs → xs[i]? = some x, fun i H => ∃ xs : List V, SqT K H a xs ∧ xs.length ≤ i⟩
theorem turn_enumT {P : Program} {w : World} {K : PySem.W.Frag} {elts : List Expr} {kk : Nat} {tpos : Pos} (a e it : Addr) :
    Turn P w K (.Tuple elts kk tpos) (Itu K a) [e, it] e (fun i h => (∃ old, IsEnum h e it ((i : Nat) : Int) old) ∧ h.IsTupleIter it a i ∧ e ≠ it ∧ e ≠ a ∧ a ≠ it) where
  mem := by simp
  obj := fun i h st b hb => by
    obtain ⟨⟨old, he⟩, ⟨o, ho, hc, hd⟩, _⟩ := st
    rcases (by simpa using hb : b = e ∨ b = it) with z | z
    · rw [z]; exact ⟨_, he, fun v q => nomatch q⟩
    · rw [z]; exact ⟨o, ho, fun v q => by rw [hd] at q; cases q⟩
  keep := fun i h h' st k => let ⟨⟨old, he⟩, hi, hne⟩ := st; ⟨⟨old, k e (by simp) _ he⟩, hi.at fun o q => k it (by simp) o q, hne⟩
  item := by
    intro X hP hw hK hc i pins s σ H E I hf st hg
    subst hP hw hK
    obtain ⟨⟨old, he⟩, hit, n1, n2, n3⟩ := st
    obtain ⟨xs, x, hq, hx⟩ := hg
    obtain ⟨its, rv, p, hz⟩ := I.tuple hq
    have hi : i < its.toArray.size := by rw [List.size_toArray, ← rv.length]; exact (List.getElem?_eq_some_iff.mp hx).1
    have p : s.heap.IsTuple a its.toArray := p
    have D := Draws.tuple (prog := X.prog) (w := X.w) (A := X.A.in1) (I.ok.hd hc) it a n3 its.toArray
    have hel : e < s.heap.objs.size := Heap.lt_size he
    have hil : it < s.heap.objs.size := let ⟨_, q, _⟩ := hit; Heap.lt_size q
    refine wpAny_pyNext_enum_itemD D he ⟨hit, p⟩ hi n1 (by simp [n1, n2]) fun u h' tk hu ho hst hT hsz hk => ?_
    have ru : RelV x u := by
      obtain ⟨u2, e2, r2⟩ := rv.get hx
      have e3 : its[i]? = some u := by simpa using hu
      rw [e2] at e3
      cases e3
      exact r2
    refine ⟨_, rfl, wpAny_letOwnedTupleGo_enum (s := { s with heap := h', toks := tk + 1 }) ho fun h2 he' sb => ?_⟩
    have hT2 : h2.get? s.heap.objs.size = some { cls := .type "tuple", data := .seq #[.int i tk, u] } := (sb.2 _ (Nat.ne_of_gt hel)).trans hT
    have new : ObjOk X.prog X.w (upd H s.heap.objs.size (.tup [.int (i : Nat), x])) h2 s.heap.objs.size (.tup [.int (i : Nat), x]) :=
      ⟨by show 2 ≤ sizeLine; decide, [.int i tk, u], .cons ⟨_, rfl⟩ (.cons ru .nil), ⟨_, hT2, rfl, _, rfl⟩⟩
    have I1 : Inv X pins σ (upd H s.heap.objs.size (.tup [.int (i : Nat), x])) { s with heap := h2, toks := tk + 1 } :=
      I.turnedNew (ch := [e, it]) (fun b ob hb q => (sb.2 b (fun z => hb (by simp [z]))).trans (hk b ob (fun z => hb (by simp [z])) (fun z => hb (by simp [z])) q)) hf (Nat.le_refl _) new
    refine ⟨.ref s.heap.objs.size, _, I1, rfl, ⟨_, x, rfl, I.hok.fresh (Nat.le_refl _), rfl, fun ys hy => by rw [I.tuple_inj hy hq]; exact hx⟩, ⟨⟨u, ?_⟩, hst.1.at fun o q => (sb.2 it (Ne.symm n1)).trans q, n1, n2, n3⟩, fun b hb => ?_⟩
    · rw [show ((i + 1 : Nat) : Int) = (i : Int) + 1 by omega]
      exact he'
    · have hb' : b < s.heap.objs.size := by
        rcases (by simpa using hb : b = e ∨ b = it) with z | z
        · rw [z]; exact hel
        · rw [z]; exact hil
      rw [upd_ne (Nat.ne_of_lt hb')]
      exact (hf b hb).1
  done := by
    intro X hP hw hK hc i pins s σ H E I hf st hg
    subst hP hw hK
    obtain ⟨⟨old, he⟩, hit, n1, n2, n3⟩ := st
    obtain ⟨xs, hq, hx⟩ := hg
    obtain ⟨its, rv, p, hz⟩ := I.tuple hq
    obtain ⟨f0, f1, f2, f3, f4, f5⟩ := hf it (by simp)
    have p : s.heap.IsTuple a its.toArray := p
    have hh : X.A.in1.handled = none := I.ok.hd hc
    have hno : its.toArray[i]? = none := by
      rw [List.getElem?_toArray]
      exact List.getElem?_eq_none (by rw [← rv.length]; exact hx)
    have D : Draws X.prog X.w X.A.in1 it [it, a] i (fun _ _ => True) (fun j h => h.IsTupleIter it a j ∧ h.IsTuple a its.toArray ∧ i ≤ j) := by
      refine ⟨fun _ _ st => let ⟨o, ho, _⟩ := st.1; ⟨o, ho⟩, fun _ _ _ st hk => ⟨st.1.at fun o e => hk it (by simp) o e, st.2.1.at fun o e => hk a (by simp) o e, st.2.2⟩, fun j s Q E hj st _ => absurd st.2.2 (by omega), fun s Q E st hE => ?_⟩
      exact wpAny_nextOf_tuple_end hh st.1 st.2.1 hno hE
    exact wpAny_pyNext_enum_endD D he ⟨hit, p, Nat.le_refl _⟩ fun h' eb => ⟨rfl, I.turned (t' := s.toks) (fun b o hb q => eb b o hb q) f0 f1 f3 f4 f5⟩
  self := fun A i s Q E st h => let ⟨⟨_, he⟩, _⟩ := st; wpAny_pyIter_enum he h
section
variable {X : Cx} {C : Cn} {T : Tb} {O : Orc} {k : Nat} {pos p apos : Pos} {a b e1 : Expr} {es : List Expr} {sa sb : Sm} {ms : List Sm} {x m : Str}
theorem walk_U {K : PySem.W.Frag} {ρ : Rho} {H : Hp} {ad : Addr} {vs : List V} {ds : List D} (hq : ∀ ρ' H', Tr ρ H ρ' H' → SqT K H' ad vs) (rs : RDs C ρ H ds vs) : Walk C ρ H (Itu K ad) (ds.zipIdx.map fun p => .tup [.int p.2, p.1]) := by
  intro ρ' H' t
  have h1 := hq ρ' H' t
  refine ⟨fun i d e => ?_, ⟨vs, h1, by rw [List.length_map, List.length_zipIdx, rs.len]; exact Nat.le_refl _⟩⟩
  rw [List.getElem?_map, List.getElem?_zipIdx] at e
  obtain ⟨q, e0, rfl⟩ := Option.map_eq_some_iff.mp e
  obtain ⟨d0, e1, e2⟩ := Option.map_eq_some_iff.mp e0
  subst e2
  obtain ⟨v, e3, e4⟩ := (rs.tr t).get e1
  refine ⟨⟨vs, v, h1, e3⟩, fun y H2 ⟨Tn, y1, z1, z2, z3, z4⟩ h hr => ?_⟩
  subst z1 z3
  have e5 := z4 vs h1
  rw [e3] at e5
  cases e5
  have xl := Ext.laid (o := .tup [.int (i : Nat), v]) hr z2
  refine ⟨xl, hr.laid z2, .tup (.inl upd_same) (hr.fresh z2) (.cons ?_ (.cons (e4.mono xl) .nil))⟩
  rw [show ((0 + i : Nat) : Int) = (i : Nat) by rw [Nat.zero_add]]
  exact .int _
theorem s_enm {elts : List Expr} {kk : Nat} {tpos q : Pos} (G : Gd X C T O k) (hg : glB X.env.scope "enumerate" = true) (ha : PE X a (tV C sa.v)) (hn : notStar a = true) : PI X (.Tuple elts kk tpos) (.Call (.Name "enumerate" q) [a] [] pos) (tI C fun σ h => match sa.v σ h with
    | some (.tup xs, h1) => some (xs.zipIdx.map fun p => .tup [.int p.2, p.1], h1)
    | _ => none) := by
  refine ⟨fun pins s σ H R I ⟨ρ, en, h0, ds, h', sr, hr, e, qq⟩ => ?_⟩
  dsimp only at e
  split at e
  · rename_i xs h1 hx
    cases e
    have hrun := ha.run pins s σ H (fun v H1 => ∃ ρ1, Ext ρ H ρ1 H1 ∧ HR C ρ1 H1 h' ∧ RD C ρ1 H1 (.tup xs) v) I ⟨ρ, en, h0, _, h', sr, hr, hx, fun ρ1 H1 v x1 hr1 rv => ⟨ρ1, x1, hr1, rv⟩⟩
    refine Call_ (ld_blt I (gl_of hg).1 (G.free _ (by decide +kernel)) boot_enumerate (PyProof.Rows.callWith_type1 (PyProof.Rows.args_cons (thn hrun fun v s1 ⟨y1, H1, I1, r1, ρ1, x1, hr1, rv⟩ => PyProof.Rows.args_nil ?_) (star_ok hn)) (star_ok hn) rfl))
    have go : ∀ (ad : Addr) (vs : List V), y1 = .ref ad → (∀ ρ' H', Tr ρ1 H1 ρ' H' → SqT X.K H' ad vs) → RDs C ρ1 H1 xs vs → wpAny (model X.prog X.w) X.A (call (.type "enumerate") [v]) (fun v s1 => wpAny (model X.prog X.w) X.A (pyIter v) (PIE X pins σ (.Tuple elts kk tpos) R) X.xe s1) X.xe s1 := fun ad vs ey hq rs => by
      subst ey
      cases r1
      obtain ⟨its, rv', p', hz⟩ := I1.tuple (hq ρ1 H1 ⟨fun _ _ z => z, fun _ _ z _ => z, fun _ z => z⟩)
      have p' : s1.heap.IsTuple ad its.toArray := p'
      have hlt : ad < s1.heap.objs.size := let ⟨_, z, _⟩ := p'; Heap.lt_size z
      refine enum_1 (begins_tuple ad its.toArray) p' fun h2 he hit hk => wpAny_pyIter_enum he ?_
      have I2 : Inv X pins σ H1 { s1 with heap := h2 } := I1.kept (t' := s1.toks) hk
      refine ⟨s1.heap.objs.size + 1, [s1.heap.objs.size + 1, s1.heap.objs.size], _, _, H1, rfl, I2, turn_enumT ad (s1.heap.objs.size + 1) s1.heap.objs.size, ⟨⟨.none, he⟩, ⟨_, hit, rfl, rfl⟩, Nat.succ_ne_self _, Nat.ne_of_gt (Nat.lt_succ_of_lt hlt), Nat.ne_of_lt hlt⟩, fun b hb => ?_, qq ρ1 H1 _ x1 hr1 (walk_U hq rs)⟩
      have hle : s1.heap.objs.size ≤ b := by
        rcases (by simpa using hb : b = s1.heap.objs.size + 1 ∨ b = s1.heap.objs.size) with z | z
        · rw [z]; exact Nat.le_add_right _ _
        · rw [z]; exact Nat.le_refl _
      exact I1.fpOk hle (I1.hok.fresh hle)
    cases rv with
    | @tup ad vs _ a1 a2 a3 => exact go ad vs rfl (fun ρ' H' t => SqT.tr t a2 a1) a3
    | @tupK ad vs _ o its n a1 a2 a3 a4 a5 a6 => exact go ad vs rfl (fun ρ' H' t => .inr ⟨o, its, n, by rw [G.K]; exact a1, a2, a3, a4, a5⟩) a6
  · cases e
end
end EV

set_option Elab.async false
set_option linter.all false
set_option maxRecDepth 100000
set_option maxHeartbeats 8000000
namespace EV
open PySem PySem.Spec PyProof.Rows L2 ClX StX
/-! ### len of a set gathered by two clauses -/
def Sof (acc : List S) : Key → Bool := fun k => acc.any fun s => decide (k = .inr (mk s))
theorem sof_has (acc : List S) (s : S) : Sof acc (.inr (mk s)) = acc.contains s := by
  unfold Sof
  induction acc with
  | nil => rfl
  | cons t acc ih =>
    rw [List.any_cons, ih, List.contains_cons]
    congr 1
    rw [Bool.eq_iff_iff, decide_eq_true_eq, beq_iff_eq]
    constructor
    · intro h; exact mk_inj (Sum.inr.inj h)
    · intro h; rw [h]
theorem sof_put (acc : List S) (s : S) : (fun j => Sof acc j || decide (j = (.inr (mk s) : Key))) = Sof (if acc.contains s then acc else acc ++ [s]) ∧ (if Sof acc (.inr (mk s)) = true then acc.length else acc.length + 1) = (if acc.contains s then acc else acc ++ [s]).length := by
  rw [sof_has]
  by_cases h : acc.contains s = true
  · rw [if_pos h, if_pos h]
    refine ⟨?_, rfl⟩
    funext j
    by_cases hj : j = .inr (mk s)
    · subst hj
      rw [sof_has, h]
      rfl
    · rw [decide_eq_false hj, Bool.or_false]
  · rw [if_neg h, if_neg h]
    refine ⟨?_, by simp⟩
    funext j
    unfold Sof
    rw [List.any_append, List.any_cons, List.any_nil, Bool.or_false]
theorem wipe_setS {is vs : List Nat} {us : List V} {σ : L2.St} (h : ∀ i ∈ is, i ∈ vs) : L2.wipe (setV is us σ) vs = L2.wipe σ vs := by
  apply List.ext_getElem?
  intro j
  rw [wipe_get, wipe_get]
  by_cases hj : j ∈ vs
  · rw [if_pos hj, if_pos hj]
    have hl := setV_len (is := is) (vs := us) (σ := σ)
    by_cases hb : j < σ.length
    · rw [List.getElem?_eq_getElem hb, List.getElem?_eq_getElem (by omega)]
      rfl
    · rw [List.getElem?_eq_none (by omega), List.getElem?_eq_none (by omega)]
  · rw [if_neg hj, if_neg hj, setV_out fun z => hj (h j z)]
theorem scan_big : 1001 < scanBound := by decide
section
variable {X : Cx} {C : Cn} {P : Program} {w : World}
/-- what stands while the set at Dn is gathered -/
def Gst (C : Cn) (P : Program) (w : World) (ρ1 : Rho) (H1 : Hp) (Dn : Addr) (H : Hp) (F : MH → List S → Prop) : Prop := ∃ ρ' h acc, Exw (fun a => a = Dn) (hide ρ1 Dn) (upd H1 Dn (SetK P w Dn (Sof []) 0)) ρ' H ∧ HR C ρ' H h ∧ H Dn = some (SetK P w Dn (Sof acc) acc.length) ∧ F h acc
theorem s_lscT {g g2 : MG} {it it2 te : Sm} {σ : L2.St} {H : Hp} {Q Q2 : VK} (h : tV C (lscS g it g2 it2 te) σ H Q) (hQ : ∀ (a : Addr) (S : Key → Bool) (n : Nat) (H' : Hp), H' a = some (SetK P w a S n) → n < scanBound → Q (.int n) H' → Q2 (.ref a) H') :
    tSc2 P w (tI C it.w) (tG C g) (tI C it2.w) (tG C g2) (tV C te.v) (slotsG g ++ slotsG g2) (slotsG g2) σ H Q2 := by
  obtain ⟨ρ, en, h0, d, h', sr, hr, e, q⟩ := h
  unfold lscS at e
  split at e
  · rename_i xs h1 hx
    split at e
    · rename_i accF h2 hg
      split at e
      · rename_i hcap
        cases e
        have hcap := of_decide_eq_true hcap
        refine ⟨ρ, en, h0, xs, h1, sr, hr, hx, fun ρ1 H1 J x1 hr1 ws Dn hD => ?_⟩
        have e0 : (fun _ : Key => false) = Sof [] := rfl
        rw [e0]
        generalize hvs : slotsG g ++ slotsG g2 = vs at hg ⊢
        have hr2 := hr1.hide (o := SetK P w Dn (Sof []) 0) hD
        have t2 : Tr ρ1 H1 (hide ρ1 Dn) (upd H1 Dn (SetK P w Dn (Sof []) 0)) := Tr.hide hD
        have sr2 := (sr.mono x1).tr t2
        refine ⟨fun i m H => i ≤ xs.length ∧ m = xs.length - i ∧ Gst C P w ρ1 H1 Dn H fun h acc => gath2 g g2 it2 te (wipeE en vs) (xs.drop i) h acc = some (accF, h'), ⟨xs.length, Nat.zero_le _, rfl, _, h1, [], Exw.weak (Ext.refl _ _), hr2, upd_same, hg⟩, ?_⟩
        rintro i m Hi ⟨hi, rfl, ρi, hhi, acc, xi, hri, hDi, hgi⟩
        have hid : ρi.hid Dn := by rw [xi.hid]; exact .inl rfl
        have ti : Tr (hide ρ1 Dn) (upd H1 Dn (SetK P w Dn (Sof []) 0)) ρi Hi := Exw.tr xi fun a z => by subst z; exact .inl rfl
        obtain ⟨wg, wstop⟩ := ws ρi Hi (t2.trans ti)
        by_cases hlt : i < xs.length
        · refine .inr ?_
          obtain ⟨go, yld⟩ := wg i xs[i] (List.getElem?_eq_getElem hlt)
          rw [List.drop_eq_getElem_cons hlt] at hgi
          unfold gath2 at hgi
          refine ⟨go, fun H' => i + 1 ≤ xs.length ∧ Gst C P w ρ1 H1 Dn H' fun h acc => gath2 g g2 it2 te (wipeE en vs) (xs.drop (i + 1)) h acc = some (accF, h'), fun H' ⟨hl, z⟩ => ⟨xs.length - (i + 1), by omega, hl, rfl, z⟩, fun x H2 y => ?_⟩
          obtain ⟨xy, hry, ry⟩ := yld x H2 y hhi hri
          cases ht : takeG g xs[i] hhi (wipeE en vs) with
          | none => rw [ht] at hgi; cases hgi
          | some en1 =>
            rw [ht] at hgi
            dsimp only at hgi
            cases hw : it2.w en1 hhi with
            | none => rw [hw] at hgi; cases hgi
            | some yh =>
              obtain ⟨ys, h3⟩ := yh
              rw [hw] at hgi
              dsimp only at hgi
              cases h1g : gath1 g2 te (wipeE en1 (slotsG g2)) ys h3 acc with
              | none => rw [h1g] at hgi; cases hgi
              | some ah =>
                obtain ⟨accY, h4⟩ := ah
                rw [h1g] at hgi
                dsimp only at hgi
                have srw : SR C ρi H2 (L2.wipe σ vs) (wipeE en vs) := (SR.wipe (sr2.tr ti) _).mono xy
                have hD2 : H2 Dn = some (SetK P w Dn (Sof acc) acc.length) := xy.keep _ _ hDi (off_hid hri hid) id
                refine ⟨ρi, _, hhi, xs[i], en1, srw, hry, ry, ht, fun us srv => ⟨by rw [wipe_setS fun i hi => by rw [← hvs]; exact List.mem_append_left _ hi, wipe_wipe], ρi, en1, hhi, ys, h3, srv, hry, hw, fun ρ3 H3 J1 x3 hr3 ws1 => ?_⟩⟩
                have hid3 : ρ3.hid Dn := by rw [x3.hid]; exact hid
                have hD3 : H3 Dn = some (SetK P w Dn (Sof acc) acc.length) := x3.keep _ _ hD2 (off_hid hry hid) id
                have xi3 := xi.trans (Exw.weak (xy.trans x3))
                generalize hσ2 : setV (slotsG g) us (L2.wipe σ vs) = σ2 at srv
                have sr3 : SR C ρ3 H3 (L2.wipe σ2 (slotsG g2)) (wipeE en1 (slotsG g2)) := SR.wipe (srv.mono x3) _
                -- the inner clause
                refine ⟨fun j n H => j ≤ ys.length ∧ n = ys.length - j ∧ ∃ ρ' h a, Exw (fun a => a = Dn) ρ3 H3 ρ' H ∧ HR C ρ' H h ∧ H Dn = some (SetK P w Dn (Sof a) a.length) ∧ gath1 g2 te (wipeE en1 (slotsG g2)) (ys.drop j) h a = some (accY, h4), ⟨ys.length, Nat.zero_le _, rfl, ρ3, h3, acc, Exw.weak (Ext.refl _ _), hr3, hD3, h1g⟩, ?_⟩
                rintro j n Hj ⟨hj, rfl, ρj, hhj, aj, xj, hrj, hDj, hgj⟩
                have hidj : ρj.hid Dn := by rw [xj.hid]; exact hid3
                have tj : Tr ρ3 H3 ρj Hj := Exw.tr xj fun a z => by subst z; exact hid3
                obtain ⟨wg1, wstop1⟩ := ws1 ρj Hj tj
                by_cases hlt1 : j < ys.length
                · refine .inr ?_
                  obtain ⟨go1, yld1⟩ := wg1 j ys[j] (List.getElem?_eq_getElem hlt1)
                  rw [List.drop_eq_getElem_cons hlt1] at hgj
                  unfold gath1 at hgj
                  refine ⟨go1, fun H' => j + 1 ≤ ys.length ∧ ∃ ρ' h a, Exw (fun a => a = Dn) ρ3 H3 ρ' H' ∧ HR C ρ' H' h ∧ H' Dn = some (SetK P w Dn (Sof a) a.length) ∧ gath1 g2 te (wipeE en1 (slotsG g2)) (ys.drop (j + 1)) h a = some (accY, h4), fun H' ⟨hl, z⟩ => ⟨ys.length - (j + 1), by omega, hl, rfl, z⟩, fun x5 H5 y5 => ?_⟩
                  obtain ⟨xy5, hry5, ry5⟩ := yld1 x5 H5 y5 hhj hrj
                  cases ht5 : takeG g2 ys[j] hhj (wipeE en1 (slotsG g2)) with
                  | none => rw [ht5] at hgj; cases hgj
                  | some en5 =>
                    rw [ht5] at hgj
                    dsimp only at hgj
                    have sr5 := (sr3.tr tj).mono xy5
                    refine ⟨ρj, _, hhj, ys[j], en5, sr5, hry5, ry5, ht5, fun us5 srv5 => ⟨by rw [wipe_setV, wipe_wipe], ?_⟩⟩
                    split at hgj
                    · rename_i s5 h5 he5
                      split at hgj
                      · rename_i hc5
                        have hc5 := of_decide_eq_true hc5
                        refine ⟨ρj, en5, hhj, .str s5, h5, srv5, hry5, he5, fun ρ6 H6 v6 x6 hr6 rv6 => ?_⟩
                        cases rv6
                        have hid6 : ρ6.hid Dn := by rw [x6.hid]; exact hidj
                        have hD5 : H5 Dn = some (SetK P w Dn (Sof aj) aj.length) := xy5.keep _ _ hDj (off_hid hrj hidj) id
                        have hD6 : H6 Dn = some (SetK P w Dn (Sof aj) aj.length) := x6.keep _ _ hD5 (off_hid hry5 hidj) id
                        obtain ⟨p1, p2⟩ := sof_put aj s5
                        refine ⟨.inr (mk s5), _, _, rfl, hD6, Nat.lt_of_le_of_lt (Nat.succ_le_succ hc5) scan_big, hlt1, ρ6, h5, if aj.contains s5 then aj else aj ++ [s5], (xj.trans (Exw.weak (xy5.trans x6))).trans Exw.grow, hr6.grow hid6, ?_, hgj⟩
                        rw [p1, p2]
                        exact upd_same
                      · cases hgj
                    · cases hgj
                · have ej : j = ys.length := by omega
                  subst ej
                  rw [List.drop_length] at hgj
                  cases hgj
                  exact .inl ⟨wstop1, hlt, ρj, _, _, xi3.trans xj, hrj, hDj, hgi⟩
        · have ei : i = xs.length := by omega
          subst ei
          rw [List.drop_length] at hgi
          cases hgi
          refine .inl ⟨wstop, hQ Dn _ _ _ hDi (Nat.lt_of_le_of_lt (Nat.le_succ_of_le hcap) scan_big) ?_⟩
          have hn : ∀ a, ρi.hid a ↔ a = Dn ∨ ρ1.hid a := fun a => by rw [xi.hid]; exact Iff.rfl
          exact q _ _ _ (x1.trans (Exw.show_ hD xi)) (HR.show_ hD xi hri) (.int _)
      · cases e
    · cases e
  · cases e
end
section
variable {X : Cx} {C : Cn} {T : Tb} {O : Orc} {k : Nat} {pos p : Pos}
theorem s_lsc {g g2 : MG} {it it2 te : Sm} {e t0 u t1 v : Expr} {scope : Scope} {own : List (Str × Nat)} {cpos : Pos} (G : Gd X C T O k) (nd : X.N.Nodup) (hgl : glB X.env.scope "len" = true) (hi : PI X t0 u (tI C it.w)) (ok : BlkOk X.N X.env.scope scope own) (ho : own.map (·.2) = slotsG g ++ slotsG g2)
    (hg : Blk X (fun Y => PG Y t0 (tG C g)) scope) (hi1 : Blk X (fun Y => PI Y t1 v (tI C it2.w)) scope) (hg1 : Blk X (fun Y => PG Y t1 (tG C g2)) scope) (he : Blk X (fun Y => PE Y e (tV C te.v)) scope) (hs : notSet u = true) (hs1 : notSet v = true) :
    PE X (.Call (.Name "len" p) [sc2 e t0 u t1 v scope cpos] [] pos) (tV C (lscS g it g2 it2 te)) := by
  obtain ⟨g1, g2', g3⟩ := gl_of hgl
  have hsc := pe_sc2 (pos := cpos) G.calm nd hi ok (vs1 := slotsG g2) (fun i hi => by rw [ho]; exact List.mem_append_right _ hi) hg hi1 hg1 he (fold_ok hs) (fun env x => fold_ok hs1 x)
  refine (pe_callB cr_lenK g1 (G.free _ (by decide +kernel)) boot_len (pa_cons hsc pa_nil rfl) g3 g2' rfl rfl).imp fun σ H Q h => ?_
  unfold tCB tCons tNil
  rw [ho]
  exact s_lscT h fun a S n H' e2 e3 e4 => ⟨a, S, n, rfl, e2, e3, e4⟩
end
end EV

set_option Elab.async false
set_option linter.all false
set_option maxRecDepth 100000
set_option maxHeartbeats 8000000
/-! ## len(o), o == p of own classes, where no repr is under way -/
namespace EV
open PySem PySem.Spec PyProof.Rows L2 ClX
section
variable {X : Cx} {k : Nat} {C g : Addr} {sp : Sp} {pins : List (Addr × Obj)} {σ : L2.St} {H : Hp} {s : Shared} {Q : VK}
/-- len(o) by the class's own -/
theorem lnG {a dx : Addr} {fs : List (Str × V)} (ea : H a = some (.ins C dx fs)) (hs : PySem.W.findIn X.K (.ref C) "__len__" = some (some (.ref g))) (hf : PySem.W.isFn X.K (.ref g) = true) (F : FnG X.prog X.w X.K X.mg X.base k g sp) (hr : Rs k X.A) (I : Inv X pins σ H s)
    (h : sp [.ref a] H (fun v H' => ∃ n, v = .int n ∧ 0 ≤ n ∧ n < 2 ^ 63 ∧ Q (.int n) H') (fun _ _ _ => False)) : wpAny (model X.prog X.w) X.A (call (.builtin "len") [.ref a]) (EP X pins σ Q) X.xe s := by
  obtain ⟨_, O, _⟩ := ins_get I.hok ea
  obtain ⟨od, J, _⟩ := O.look
  obtain ⟨m, hF⟩ := I.fr
  refine PySem.W.len_K hF I.ok.mod.kin J hs hf (wpAny_call ?_)
  refine codeAny_mono (F X.A.in1 X.stack s H [.ref a] [.ref a] _ _ hr.in1 I.env0.in1 (.cons rfl .nil) h) fun r s' hq => ?_
  have e := ends_ok (P := fun u s' => ∃ n t, u = .int n t ∧ 0 ≤ n ∧ n < 2 ^ 63 ∧ ∃ H', Inv X pins σ H' s' ∧ Q (.int n) H') I hq fun u ⟨v, H', I3, rv, n, ev, n0, n1, q3⟩ => by
    subst ev
    obtain ⟨t, rfl⟩ := rv
    exact ⟨n, t, rfl, n0, n1, H', I3, q3⟩
  cases r with
  | error _ => exact False.elim e
  | ok fl =>
    cases fl with
    | ret u =>
      obtain ⟨n, t, rfl, n0, n1, H', I3, q3⟩ := e
      exact ⟨⟨n0, n1⟩, .int n, H', I3.tok _, ⟨_, rfl⟩, q3⟩
    | next => exact False.elim e
    | brk => exact False.elim e
    | cont => exact False.elim e
/-- o == p, both of one own class -/
theorem eqG {a b dx dy : Addr} {fs gs : List (Str × V)} (ha : H a = some (.ins C dx fs)) (hb : H b = some (.ins C dy gs)) (hs : PySem.W.findIn X.K (.ref C) "__eq__" = some (some (.ref g))) (hf : PySem.W.isFn X.K (.ref g) = true) (F : FnG X.prog X.w X.K X.mg X.base k g sp) (hr : Rs k X.A) (I : Inv X pins σ H s)
    (h : sp [.ref a, .ref b] H (fun v H' => ∃ z, v = .bl z ∧ Q (.bl z) H') (fun _ _ _ => False)) : wpAny (model X.prog X.w) X.A (richCompare .Eq (.ref a) (.ref b)) (EP X pins σ Q) X.xe s := by
  obtain ⟨mA, J, _⟩ := ins_get I.hok ha
  obtain ⟨mB, J', _⟩ := ins_get I.hok hb
  obtain ⟨od, J, _⟩ := J.look
  obtain ⟨od', J', _⟩ := J'.look
  obtain ⟨m, hF⟩ := I.fr
  refine PySem.W.cmp_K (op := .Eq) (tb := .ref C) hr.rm.room.units0 hF I.ok.mod.kin J J'.type (by simp [PySem.W.notFirst]) hs hf ?_
  refine wpAny_call (codeAny_mono (F X.A X.stack s H [.ref a, .ref b] [.ref a, .ref b] _ _ hr.rm I.env0 (.cons rfl (.cons rfl .nil)) h) fun r s' hq => ?_)
  have e := ends_ok (P := fun u s' => ∃ z : Bool, u = .bool z ∧ ∃ H', Inv X pins σ H' s' ∧ Q (.bl z) H') I hq fun u ⟨v, H', I3, rv, z, ev, q3⟩ => by
    subst ev
    cases rv
    exact ⟨z, rfl, H', I3, q3⟩
  cases r with
  | error _ => exact False.elim e
  | ok fl =>
    cases fl with
    | ret u =>
      obtain ⟨z, rfl, H', I3, q3⟩ := e
      exact ⟨.bl z, H', I3, rfl, q3⟩
    | next => exact False.elim e
    | brk => exact False.elim e
    | cont => exact False.elim e
end
end EV

set_option Elab.async false
set_option linter.all false
set_option maxRecDepth 100000
set_option maxHeartbeats 8000000
/-! ## a class by its name, C(), len(o), o == p: as readings; the class facts as premises -/
namespace EV
open PySem PySem.Spec PyProof.Rows L2
section
variable {X : Cx} {C : Cn} {T : Tb} {O : Orc} {k : Nat} {a b : Expr} {sa sb : Sm} {p pos : Pos} {x : Str}
theorem s_gcl {c : Nat} (G : Gd X C T O k) (hx : T.cN c = x) (hc : T.cD c = true) (hg : glB X.env.scope x = true) : PE X (.Name x p) (tV C (fun _ h => some (.cls c, h))) := by
  have hm := G.cls c hc
  rw [hx] at hm
  obtain ⟨g1, g2, _⟩ := gl_of hg
  exact (pe_glob (v := .ref (C.cA c)) (u := .ref (C.cA c)) g1 hm rfl g2).imp fun σ H Q ⟨ρ, en, h, d0, h', sr, hh, e, q⟩ => by
    cases e
    exact q.here hh (.cls c)
theorem s_mk0 {c f : Nat} (G : Gd X C T O k) (hx : T.cN c = x) (hc : T.cD c = true) (hg : glB X.env.scope x = true) : PE X (.Call (.Name x p) [] [] pos) (tV C (fun _ h => if O.okX 0 c f then mkR c (O.call f) [] h else none)) := by
  refine ⟨fun pins s σ H Q I ⟨ρ, en, h0, d, h', sr, hr, e, q⟩ => ?_⟩
  dsimp only at e
  split at e
  · rename_i hok
    have M := (G.okX c f).1 hok
    have hm := G.cls c hc
    rw [hx] at hm
    obtain ⟨g1, g2, _⟩ := gl_of hg
    refine wpAny_Call_Name_kw (ld_glob I g1 hm ?_ g2)
    exact PySem.W.callWith_K0 I.kIn M.kp (mkG M (G.call f) G.rs I .nil (mk_met hr .nil e q))
  · cases e
/-- len(o) -/
theorem s_lno {f : Nat} {ok : Nat → Bool} (G : Gd X C T O k) (hk : ∀ c, ok c = true → PySem.W.findIn X.K (.ref (C.cA c)) "__len__" = some (some (.ref (C.fA f))) ∧ PySem.W.isFn X.K (.ref (C.fA f)) = true) (ha : PE X a (tV C sa.v)) (hg : glB X.env.scope "len" = true) (hn : notStar a = true) :
    PE X (.Call (.Name "len" p) [a] [] pos) (tV C (fun σ h => intS (atO ok (O.call f) sa σ h))) := by
  refine ⟨fun pins s σ H Q I ⟨ρ, en, h0, d, h', sr, hr, e, q⟩ => ?_⟩
  obtain ⟨g1, g2, g3⟩ := gl_of hg
  dsimp only at e
  have key : ∃ z : Int, d = .int z ∧ (0 ≤ z ∧ z < 2 ^ 62) ∧ atO ok (O.call f) sa en h0 = some (.int z, h') := by
    unfold intS at e
    split at e
    · rename_i z h1 hz
      split at e
      · rename_i hb
        cases e
        exact ⟨z, rfl, of_decide_eq_true hb, hz⟩
      · cases e
    · cases e
  clear e
  obtain ⟨z, rfl, hz, e⟩ := key
  unfold atO at e
  split at e
  · rename_i y h1 hy
    split at e
    · rename_i c fs hi
      split at e
      · rename_i hok
        obtain ⟨k1, k2⟩ := hk c hok
        have hrun := ha.run pins s σ H (fun v H1 => ∃ ρ1, Ext ρ H ρ1 H1 ∧ HR C ρ1 H1 h1 ∧ RD C ρ1 H1 y v) I ⟨ρ, en, h0, y, h1, sr, hr, hy, fun ρ1 H1 v x1 hr1 rv => ⟨ρ1, x1, hr1, rv⟩⟩
        refine wpAny_Call_Name_kw (ld_blt I g1 (G.free _ (by decide +kernel)) (u := .builtin "len") (by decide +kernel) ?_ g3 g2)
        refine PyProof.Rows.callWith_builtin1 (PyProof.Rows.args_cons (thn hrun fun v s1 ⟨y1, H1, I1, r1, ρ1, x1, hr1, rv⟩ => PyProof.Rows.args_nil ?_) (star_ok hn)) (star_ok hn) rfl
        obtain ⟨ad, dx, fvs, rfl, h2, _, _⟩ := ins_at hr1 hi rv
        cases r1
        refine lnG h2 k1 k2 (G.call f) G.rs I1 ⟨ρ1, h1, [y], .int z, h', hr1, .cons rv .nil, e, fun ρ2 H2 v x2 hr2 rv2 => ?_⟩
        cases rv2
        exact ⟨z, rfl, hz.1, by omega, q ρ2 H2 _ (x1.trans x2) hr2 (.int z)⟩
      · cases e
    · cases e
  · cases e
def rEqO (X : Cx) (C : Cn) (ok : Nat → Bool) (f : Nat) (sp : Sp) : R2 := fun x y H Q => ∃ a b dx dy fs gs c, x = .ref a ∧ y = .ref b ∧ H a = some (.ins (C.cA c) dx fs) ∧ H b = some (.ins (C.cA c) dy gs) ∧ ok c = true ∧ sp [.ref a, .ref b] H (fun v H' => ∃ z, v = .bl z ∧ Q (.bl z) H') (fun _ _ _ => False)
theorem op_eqO {f : Nat} {ok : Nat → Bool} (G : Gd X C T O k) (hk : ∀ c, ok c = true → PySem.W.findIn X.K (.ref (C.cA c)) "__eq__" = some (some (.ref (C.fA f))) ∧ PySem.W.isFn X.K (.ref (C.fA f)) = true) : OpR X (compareOp .Eq) (rEqO X C ok f (rCal C (O.call f))) := by
  intro pins s σ H x y v u Q I rx ry ⟨a, b, dx, dy, fs, gs, c, e1, e2, h1, h2, hok, h⟩
  subst e1 e2
  cases rx
  cases ry
  obtain ⟨k1, k2⟩ := hk c hok
  show wpAny (model X.prog X.w) X.A (richCompare .Eq (.ref a) (.ref b)) (EP X pins σ Q) X.xe s
  exact eqG h1 h2 k1 k2 (G.call f) G.rs I h
/-- o == p -/
theorem eqo_ {f : Nat} {ok : Nat → Bool} {σ : L2.St} {H : Hp} {Q : VK} (h : tV C (eqoS ok (O.call f) sa sb) σ H Q) : tV C sa.v σ H fun x H1 => tV C sb.v σ H1 fun y H2 => rEqO X C ok f (rCal C (O.call f)) x y H2 Q := by
  obtain ⟨ρ, en, h0, d, h', sr, hr, e, q⟩ := h
  unfold eqoS at e
  split at e
  · rename_i x h1 hx
    split at e
    · rename_i y h2 hy
      split at e
      · rename_i c _ c2 _ hi1 hi2
        split at e
        · rename_i hc
          rw [Bool.and_eq_true, decide_eq_true_eq] at hc
          obtain ⟨rfl, hok⟩ := hc
          split at e
          · rename_i z h3 hz
            cases e
            refine ⟨ρ, en, h0, x, h1, sr, hr, hx, fun ρ1 H1 v x1 hr1 rv => ⟨ρ1, en, h1, y, h2, sr.mono x1, hr1, hy, fun ρ2 H2 u x2 hr2 ru => ?_⟩⟩
            have rv2 := rv.mono x2
            obtain ⟨a1, dx, fvs, rfl, g1, _, _⟩ := ins_at hr2 hi1 rv2
            obtain ⟨a2, dy, gvs, rfl, g2, _, _⟩ := ins_at hr2 hi2 ru
            refine ⟨a1, a2, dx, dy, fvs, gvs, c, rfl, rfl, g1, g2, hok, ρ2, h2, [x, y], .bl z, _, hr2, .cons rv2 (.cons ru .nil), hz, fun ρ3 H3 w x3 hr3 rw_ => ?_⟩
            cases rw_
            exact ⟨z, rfl, q ρ3 H3 _ ((x1.trans x2).trans x3) hr3 (.bl z)⟩
          · cases e
        · cases e
      · cases e
    · cases e
  · cases e
theorem s_eqo {f : Nat} {ok : Nat → Bool} (G : Gd X C T O k) (hk : ∀ c, ok c = true → PySem.W.findIn X.K (.ref (C.cA c)) "__eq__" = some (some (.ref (C.fA f))) ∧ PySem.W.isFn X.K (.ref (C.fA f)) = true) (ha : PE X a (tV C sa.v)) (hb : PE X b (tV C sb.v)) (hn : notSet b = true) :
    PE X (.Compare a [.Eq] [b] pos) (tV C (eqoS ok (O.call f) sa sb)) := (pe_cmpR (op_eqO G hk) ha hb (mark_ok hn)).imp fun σ H Q hq => eqo_ hq
theorem s_eqoT {f : Nat} {ok : Nat → Bool} (G : Gd X C T O k) (hk : ∀ c, ok c = true → PySem.W.findIn X.K (.ref (C.cA c)) "__eq__" = some (some (.ref (C.fA f))) ∧ PySem.W.isFn X.K (.ref (C.fA f)) = true) (ha : PE X a (tV C sa.v)) (hb : PE X b (tV C sb.v)) (hn : notSet b = true) :
    PT X (.Compare a [.Eq] [b] pos) (tB_ C (truS (eqoS ok (O.call f) sa sb))) :=
  (pt_cmpR (op_eqO G hk) ha hb (mark_ok hn)).imp fun σ H Q ⟨ρ, en, h, b0, h', sr, hr, e, q⟩ => by
    unfold truS at e
    split at e
    · rename_i x h1 hx
      obtain ⟨b1, hb1, e2⟩ := Option.map_eq_some_iff.mp e
      cases e2
      refine eqo_ (Q := fun x H' => ∃ k, x = V.bl k ∧ Q k H') ⟨ρ, en, h, x, _, sr, hr, hx, fun ρ1 H1 v x1 hr1 rv => ?_⟩
      have isb : ∃ c, x = .bl c := by
        unfold eqoS at hx
        split at hx
        · split at hx
          · split at hx
            · split at hx
              · split at hx
                · cases hx; exact ⟨_, rfl⟩
                · cases hx
              · cases hx
            · cases hx
          · cases hx
        · cases hx
      obtain ⟨c, rfl⟩ := isb
      cases hb1
      cases rv
      exact ⟨_, rfl, q ρ1 H1 x1 hr1⟩
    · cases e
end
end EV

set_option Elab.async false
set_option linter.all false
set_option maxRecDepth 100000
set_option maxHeartbeats 8000000
/-! ## isinstance(a, C), C an own class -/
namespace EV
open PySem PySem.Spec PyProof.Rows L2
section
variable {X : Cx} {C : Cn} {T : Tb} {O : Orc} {k : Nat} {a b : Expr} {sa sb : Sm} {p pos : Pos} {x : Str}
theorem dTy_all {h : MH} {d : D} {t : String} (e : dTy h d = some t) : t ∈ tyAll := by
  unfold dTy at e
  split at e <;> (try split at e) <;> first | (cases e; decide) | cases e
theorem s_isc {c : Nat} {q : Pos} (G : Gd X C T O k) (ha : PE X a (tV C sa.v)) (hx : T.cN c = x) (hc : T.cD c = true) (hg : glB X.env.scope x = true) (hi : glB X.env.scope "isinstance" = true) (hn : notStar a = true) :
    PE X (.Call (.Name "isinstance" p) [a, .Name x q] [] pos) (tV C (iscS (fun c => O.okX 6 c 0) c sa)) := by
  have hm := G.cls c hc
  rw [hx] at hm
  obtain ⟨g1, g2, g3⟩ := gl_of hi
  obtain ⟨k1, k2, k3⟩ := gl_of hg
  have hcl : PE X (.Name x q) (tC (.ref (C.cA c))) := pe_glob (v := .ref (C.cA c)) (u := .ref (C.cA c)) k1 hm rfl k2
  have hp := pa_cons ha (pa_cons hcl pa_nil) (star_ok hn)
  refine (pe_callB call_isi g1 (G.free _ (by decide +kernel)) (by decide +kernel) hp g3 g2 (star_ok hn)).imp fun σ H Q ⟨ρ, en, h, d, h', sr, hr, e, q⟩ => ?_
  unfold iscS at e
  split at e
  · rename_i y h1 hy
    split at e
    · rename_i hok
      have I := G.okZ c 0 hok
      split at e
      · rename_i c2 fs hi2
        split at e
        · rename_i hcc
          subst hcc
          cases e
          refine ⟨ρ, en, h, y, _, sr, hr, hy, fun ρ1 H1 v x1 hr1 rv => ?_⟩
          show tC (.ref (C.cA c2)) σ H1 fun z H2 => _
          obtain ⟨ad, dx, fvs, rfl, h2, _, _⟩ := ins_at hr1 hi2 rv
          exact ⟨.ref ad, .ref (C.cA c2), .ref (C.cA c2), .ref (C.cA c2), true, rfl, .own _, .base (.ins h2 I.cl I.ha I.hn I.htk I.hm), by unfold PySem.W.kitOne; rw [if_pos (by simp)], q ρ1 H1 _ x1 hr1 (.bl _)⟩
        · cases e
      · split at e
        · rename_i tn hd
          cases e
          refine ⟨ρ, en, h, y, _, sr, hr, hy, fun ρ1 H1 v x1 hr1 rv => ?_⟩
          show tC (.ref (C.cA c)) σ H1 fun z H2 => _
          exact ⟨v, .ref (C.cA c), .type tn, .ref (C.cA c), false, rfl, .own _, tyx G.K hr1 rv hd, I.neg _ (dTy_all hd), q ρ1 H1 _ x1 hr1 (.bl _)⟩
        · cases e
    · cases e
  · cases e
end
end EV

set_option Elab.async false
set_option linter.all false
set_option maxRecDepth 100000
set_option maxHeartbeats 8000000
/-! ## o.m(e, ..), o.m(), o.m(e, .., k = v) of own classes -/
namespace EV
open PySem PySem.Spec PyProof.Rows L2 ClX StX
section
variable {X : Cx} {C : Cn} {T : Tb} {O : Orc} {k : Nat} {pos p apos : Pos} {a b e1 : Expr} {es : List Expr} {kws : List Keyword} {sa sb : Sm} {ms : List Sm} {x m : Str}
/-- the node, with keywords -/
theorem meth_nodeK {M : Model} {A : Around} {E : Value → Shared → Prop} {s : Shared} {Q : Value → Shared → Prop} {env : Env} {o : Expr} (hb : plainBase o = true) (hf : methodCallForm (es.length + kws.length) (backTo pos (starEach es env)) (backToKw pos (keywordEach kws env)) = true) (hl : (apos.endLine == pos.line) = true)
    (h : wpAny M A (eval o env) (fun ov s1 => wpAny M A (getMethod ov m (do return (← importBound o env).getD true)) (fun fx s2 => wpAny M A (callWith pos fx.1 fx.2 (backTo pos (starEach es env)) (backToKw pos (keywordEach kws env))) Q E s2) E s1) E s) : wpAny M A (eval (.Call (.Attribute o m apos) es kws pos) env) Q E s := by
  rw [arm_eval_Call, base_ok hb]
  refine wpAny_bind (wpAny_mono h (fun ov s1 h1 => wpAny_bind (wpAny_standAt ?_)) fun _ _ x => x)
  unfold methodCall
  rw [hf]
  refine wpAny_bind (wpAny_holding ?_)
  show wpAny M A (getMethod ov m (do return (← importBound o env).getD true)) _ E _
  refine wpAny_mono h1 (fun fx s2 h2 => ?_) fun _ _ x => x
  have hp : methodCallPos true o env apos pos = pure pos := by unfold methodCallPos; rw [hl]; rfl
  exact wpAny_bind (wpAny_of_eq hp h2)
theorem form_ok {env : Env} (hn : es.all notStar = true) (hl : es.length < 28) : methodCallForm (es.length + ([] : List Keyword).length) (backTo pos (starEach es env)) (backToKw pos (keywordEach [] env)) = true := by
  show ((backTo pos (starEach es env)).all (fun x => !x.1) && (backToKw pos (keywordEach [] env)).all (fun x => x.1.isSome) && decide (es.length + 0 + 0 < 30)) = true
  rw [back_all hn, Bool.and_eq_true, Bool.and_eq_true]
  exact ⟨⟨rfl, rfl⟩, decide_eq_true (by omega)⟩
theorem form_ok1 {env : Env} {kn : Str} {e : Expr} {kp : Pos} (hn : es.all notStar = true) (hl : es.length < 28) : methodCallForm (es.length + [(⟨some kn, e, kp⟩ : Keyword)].length) (backTo pos (starEach es env)) (backToKw pos (keywordEach [⟨some kn, e, kp⟩] env)) = true := by
  show ((backTo pos (starEach es env)).all (fun x => !x.1) && (backToKw pos (keywordEach [⟨some kn, e, kp⟩] env)).all (fun x => x.1.isSome) && decide (es.length + 1 + 1 < 30)) = true
  rw [back_all hn, Bool.and_eq_true, Bool.and_eq_true]
  exact ⟨⟨rfl, rfl⟩, decide_eq_true (by omega)⟩
def metS (O : Orc) (f : Nat) (o : Sm) (ms : List Sm) (σ : En) (h : MH) : Option (D × MH) := match o.v σ h with
  | some (x, h1) => match insD h1 x with
    | some (c, fs) => if O.okM c f && fs.all (fun q => O.okF c q.1) then match evs ms σ h1 with
        | some (ds, h2) => O.call f (x :: ds) h2
        | none => none
      else none
    | none => none
  | none => none
theorem no_attr {c f : Nat} {fs : List (Nat × D)} {fvs : List (Str × V)} (G : Gd X C T O k) (hm : O.okM c f = true) (hok : (fs.all fun q => O.okF c q.1) = true) (e : fs.map (fun q => C.fN q.1) = fvs.map (·.1)) : fvs.lookup (T.uN f) = none := by
  obtain ⟨_, _, hne⟩ := G.okM c f hm
  rw [List.lookup_eq_none_iff]
  intro q hq
  have h1 : q.1 ∈ fs.map (fun q => C.fN q.1) := by rw [e]; exact List.mem_map.mpr ⟨q, hq, rfl⟩
  obtain ⟨r, hr, e2⟩ := List.mem_map.mp h1
  have h2 := hne r.1 (List.all_eq_true.mp hok r hr)
  simp only [bne_iff_ne, ne_eq]
  intro z
  exact h2 (e2.trans z.symm)
/-- o.m(e, ..) -/
theorem s_meth {f : Nat} (G : Gd X C T O k) (ha : PE X a (tV C sa.v)) (hb : plainBase a = true) (hm : T.uN f = m) (hs : PA X (e1 :: es) (tL C ms)) (hn : (e1 :: es).all notStar = true) (hl : (e1 :: es).length < 28) (hli : (apos.endLine == pos.line) = true) : PE X (.Call (.Attribute a m apos) (e1 :: es) [] pos) (tV C (metS O f sa ms)) := by
  refine ⟨fun pins s σ H Q I ⟨ρ, en, h0, d, h', sr, hr, e, q⟩ => ?_⟩
  unfold metS at e
  split at e
  · rename_i y h1 hy
    split at e
    · rename_i c fs hi
      split at e
      · rename_i hok
        rw [Bool.and_eq_true] at hok
        obtain ⟨k1, k2, _⟩ := G.okM c f hok.1
        split at e
        · rename_i ds h2 hds
          have fw := form_ok (pos := pos) (env := X.env) hn hl
          rw [List.all_cons, Bool.and_eq_true] at hn
          refine meth_nodeK hb fw hli (thn (ha.run pins s σ H _ I ⟨ρ, en, h0, y, h1, sr, hr, hy, fun ρ1 H1 v x1 hr1 rv => (show ∃ ρ1, Ext ρ H ρ1 H1 ∧ HR C ρ1 H1 h1 ∧ RD C ρ1 H1 y v from ⟨ρ1, x1, hr1, rv⟩)⟩) fun u s1 ⟨v, H1, I1, rx, ρ1, x1, hr1, rv⟩ => ?_)
          obtain ⟨ad, dx, fvs, rfl, h3, h4, h5⟩ := ins_at hr1 hi rv
          obtain rfl : u = Value.ref ad := rx
          have hno := no_attr G hok.1 hok.2 h4
          rw [hm] at k2 hno
          refine getmeth_ok I1 h3 k1 k2 hno ?_
          refine PySem.W.callWith_K (first := [.ref ad]) (h₀ := X.base) I.ok.mod.kin k2.kp (thn (hs.run pos pins s1 σ H1 (fun vs H2 => ∃ ρ2, Ext ρ1 H1 ρ2 H2 ∧ HR C ρ2 H2 h2 ∧ RDs C ρ2 H2 ds vs) I1 ⟨ρ1, en, h1, ds, h2, sr.mono x1, hr1, hds, fun ρ2 H2 vs x2 hr2 rvs => ⟨ρ2, x2, hr2, rvs⟩⟩) fun us s2 ⟨vs, H2, I2, rvs0, ρ2, x2, hr2, rvs⟩ => ⟨I2.kIn, ?_⟩) (star_ok hn.1) (back_any hn.2)
          exact wpAny_call (run_fnG (us := .ref ad :: us) (vs := .ref ad :: vs) (G.call f) G.rm I2 (.cons rfl rvs0) ⟨ρ2, h2, y :: ds, d, h', hr2, .cons (rv.mono x2) rvs, e, fun ρ3 H3 w x3 hr3 rw3 => q ρ3 H3 w ((x1.trans x2).trans x3) hr3 rw3⟩)
        · cases e
      · cases e
    · cases e
  · cases e
/-- o.m() -/
theorem s_meth0 {f : Nat} (G : Gd X C T O k) (ha : PE X a (tV C sa.v)) (hb : plainBase a = true) (hm : T.uN f = m) (hli : (apos.endLine == pos.line) = true) : PE X (.Call (.Attribute a m apos) [] [] pos) (tV C (metS O f sa [])) := by
  refine ⟨fun pins s σ H Q I ⟨ρ, en, h0, d, h', sr, hr, e, q⟩ => ?_⟩
  unfold metS at e
  split at e
  · rename_i y h1 hy
    split at e
    · rename_i c fs hi
      split at e
      · rename_i hok
        rw [Bool.and_eq_true] at hok
        obtain ⟨k1, k2, _⟩ := G.okM c f hok.1
        refine meth_nodeK hb (form_ok (es := []) rfl (by decide)) hli (thn (ha.run pins s σ H _ I ⟨ρ, en, h0, y, h1, sr, hr, hy, fun ρ1 H1 v x1 hr1 rv => (show ∃ ρ1, Ext ρ H ρ1 H1 ∧ HR C ρ1 H1 h1 ∧ RD C ρ1 H1 y v from ⟨ρ1, x1, hr1, rv⟩)⟩) fun u s1 ⟨v, H1, I1, rx, ρ1, x1, hr1, rv⟩ => ?_)
        obtain ⟨ad, dx, fvs, rfl, h3, h4, h5⟩ := ins_at hr1 hi rv
        obtain rfl : u = Value.ref ad := rx
        have hno := no_attr G hok.1 hok.2 h4
        rw [hm] at k2 hno
        refine getmeth_ok I1 h3 k1 k2 hno ?_
        exact PySem.W.callWith_K0 (first := [.ref ad]) I1.kIn k2.kp (wpAny_call (run_fnG (us := [.ref ad]) (vs := [.ref ad]) (G.call f) G.rm I1 (.cons rfl .nil) ⟨ρ1, h1, [y], d, h', hr1, .cons rv .nil, e, fun ρ3 H3 w x3 hr3 rw3 => q ρ3 H3 w (x1.trans x3) hr3 rw3⟩))
      · cases e
    · cases e
  · cases e
theorem run_fnGK {pins : List (Addr × Obj)} {σ : L2.St} {H : Hp} {s : Shared} {f : Addr} {kn : Str} {sp : Sp} {Q : VK} {us : List Value} {vs : List V} {u : Value} {v : V} (F : FnGK X.prog X.w X.K X.mg X.base k f kn sp) (hr : Rm k X.A) (I : Inv X pins σ H s) (r : Vals vs us) (r1 : RelV v u) (h : sp (vs ++ [v]) H Q fun _ _ _ => False) :
    codeAny (model X.prog X.w) X.A (.call (.ref f) ⟨us, [(kn, u)]⟩) (fun r s' => match r with | .ok (.ret v) => EP X pins σ Q v s' | .ok _ => False | .error e => X.xe e s') s := by
  refine codeAny_mono (F X.A X.stack s H us vs u v Q _ hr I.env0 r r1 h) fun r s' hq => ?_
  cases r with
  | error e => exact False.elim hq
  | ok fl =>
    cases fl with
    | ret u => exact I.after hq
    | next => exact False.elim hq
    | brk => exact False.elim hq
    | cont => exact False.elim hq
def kmtS (O : Orc) (f : Nat) (o : Sm) (ms : List Sm) (v : Sm) (σ : En) (h : MH) : Option (D × MH) := match o.v σ h with
  | some (x, h1) => match insD h1 x with
    | some (c, fs) => if O.okM c f && fs.all (fun q => O.okF c q.1) then match evs ms σ h1 with
        | some (ds, h2) => match v.v σ h2 with
          | some (y, h3) => O.callK f (x :: (ds ++ [y])) h3
          | none => none
        | none => none
      else none
    | none => none
  | none => none
/-- o.m(e, .., k = v) -/
theorem s_kmt {f : Nat} {kn : Str} {kp : Pos} (G : Gd X C T O k) (ha : PE X a (tV C sa.v)) (hb : plainBase a = true) (hm : T.uN f = m) (hkn : T.kN f = kn) (hs : PA X (e1 :: es) (tL C ms)) (hv : PE X b (tV C sb.v)) (hn : (e1 :: es).all notStar = true) (hl : (e1 :: es).length < 28) (hli : (apos.endLine == pos.line) = true) : PE X (.Call (.Attribute a m apos) (e1 :: es) [⟨some kn, b, kp⟩] pos) (tV C (kmtS O f sa ms sb)) := by
  refine ⟨fun pins s σ H Q I ⟨ρ, en, h0, d, h', sr, hr, e, q⟩ => ?_⟩
  unfold kmtS at e
  split at e
  · rename_i y h1 hy
    split at e
    · rename_i c fs hi
      split at e
      · rename_i hok
        rw [Bool.and_eq_true] at hok
        obtain ⟨k1, k2, _⟩ := G.okM c f hok.1
        split at e
        · rename_i ds h2 hds
          split at e
          · rename_i z h3 hz
            have fw := form_ok1 (pos := pos) (env := X.env) (kn := kn) (e := b) (kp := kp) hn hl
            rw [List.all_cons, Bool.and_eq_true] at hn
            refine meth_nodeK hb fw hli (thn (ha.run pins s σ H _ I ⟨ρ, en, h0, y, h1, sr, hr, hy, fun ρ1 H1 v x1 hr1 rv => (show ∃ ρ1, Ext ρ H ρ1 H1 ∧ HR C ρ1 H1 h1 ∧ RD C ρ1 H1 y v from ⟨ρ1, x1, hr1, rv⟩)⟩) fun u s1 ⟨v, H1, I1, rx, ρ1, x1, hr1, rv⟩ => ?_)
            obtain ⟨ad, dx, fvs, rfl, h4, h5, h6⟩ := ins_at hr1 hi rv
            obtain rfl : u = Value.ref ad := rx
            have hno := no_attr G hok.1 hok.2 h5
            rw [hm] at k2 hno
            refine getmeth_ok I1 h4 k1 k2 hno ?_
            refine PySem.W.callWith_KW (first := [.ref ad]) (h₀ := X.base) I.ok.mod.kin k2.kp rfl (thn (hs.run pos pins s1 σ H1 (fun vs H2 => ∃ ρ2, Ext ρ1 H1 ρ2 H2 ∧ HR C ρ2 H2 h2 ∧ RDs C ρ2 H2 ds vs) I1 ⟨ρ1, en, h1, ds, h2, sr.mono x1, hr1, hds, fun ρ2 H2 vs x2 hr2 rvs => ⟨ρ2, x2, hr2, rvs⟩⟩) fun us s2 ⟨vs, H2, I2, rvs0, ρ2, x2, hr2, rvs⟩ => ?_) (by rw [back_any (es := e1 :: es) (by rw [List.all_cons, hn.1, hn.2]; rfl)]; rfl) (star_ok hn.1)
            refine thn ((pk_cons (nm := some kn) (kpos := kp) hv pk_nil).run pos pins s2 σ H2 (fun zs H3 => ∃ w ρ3, zs = [w] ∧ Ext ρ2 H2 ρ3 H3 ∧ HR C ρ3 H3 h3 ∧ RD C ρ3 H3 z w) I2 ⟨ρ2, en, h2, z, h3, (sr.mono x1).mono x2, hr2, hz, fun ρ3 H3 w x3 hr3 rw3 => ⟨w, ρ3, rfl, x3, hr3, rw3⟩⟩) fun ws s3 ⟨zs, H3, I3, rz, w, ρ3, ez, x3, hr3, rw3⟩ => ⟨I3.kIn, ?_⟩
            subst ez
            cases rz with
            | @cons _ uw _ _ rw1 rz0 =>
              cases rz0
              show wpAny (model X.prog X.w) X.A (call (.ref (C.fA f)) (.ref ad :: us) [(kn, uw)]) (EP X pins σ Q) X.xe s3
              have F := G.callK f
              rw [hkn] at F
              exact wpAny_call (run_fnGK (us := .ref ad :: us) (vs := .ref ad :: vs) F G.rm I3 (.cons rfl rvs0) rw1 ⟨ρ3, h3, y :: (ds ++ [z]), d, h', hr3, .cons ((rv.mono x2).mono x3) ((rvs.mono x3).app (.cons rw3 .nil)), e, fun ρ4 H4 w4 x4 hr4 rw4 => q ρ4 H4 w4 (((x1.trans x2).trans x3).trans x4) hr4 rw4⟩)
          · cases e
        · cases e
      · cases e
    · cases e
  · cases e
end
end EV

set_option Elab.async false
set_option linter.all false
set_option maxRecDepth 100000
set_option maxHeartbeats 4000000
namespace EV
open PySem PySem.Spec PyProof.Rows L2
def cstB : D → Const → Bool
  | .non, .none => true
  | .bl b, .bool c => b == c
  | .int i, .int j => i == j
  | .str s, .str x => decide (mk s = x) && okS s
  | _, _ => false
/-- targets: names, their slots -/
def tgB (N : List Str) (ok : Str → Bool) : MG → Expr → Bool
  | .nm i, .Name x _ => decide (N[i]? = some x) && ok x
  | .tp is, .Tuple es _ _ => go is es
  | _, _ => false
where go : List Nat → List Expr → Bool
  | [], [] => true
  | i :: is, .Name x _ :: es => decide (N[i]? = some x) && ok x && go is es
  | _, _ => false
def tgNames : Expr → List Str
  | .Name x _ => [x]
  | .Tuple es _ _ => es.filterMap fun | .Name x _ => some x | _ => none
  | _ => []
/-- the block's own names and slots -/
def ownOf (g : MG) (tg : Expr) : List (Str × Nat) := (tgNames tg).zip (slotsG g)
/-- in a comprehension: an own name -/
def ownB (scope : Scope) (x : Str) : Bool := match scope.names.lookup x with
  | some .local => true
  | some .cell => true
  | _ => false
def opB (a b : Operator) : Bool := decide (a = b)
def copB (a b : CmpOp) : Bool := decide (a = b)
/-- the test clauses of a comprehension: none or one -/
def few {α β : Type} (f : α → β → Bool) : List α → List β → Bool
  | [], [] => true
  | [a], [b] => f a b
  | _, _ => false
def keysOk (keys : List (Option Expr)) (values : List Expr) : Bool := keys.all (·.isSome) && keys.length == values.length && !keys.isEmpty && decide (keys.length ≤ 15)
def asName : Expr → Option (Str × Pos)
  | .Name a0 a1 => some (a0, a1)
  | _ => none
theorem asName_ok {e : Expr} {a0 : Str} {a1 : Pos} (h : asName e = some (a0, a1)) : e = .Name a0 a1 := by
  cases e <;> (cases h; try rfl)
def asConst : Expr → Option (Const × Nat × Pos)
  | .Constant a0 a1 a2 => some (a0, a1, a2)
  | _ => none
theorem asConst_ok {e : Expr} {a0 : Const} {a1 : Nat} {a2 : Pos} (h : asConst e = some (a0, a1, a2)) : e = .Constant a0 a1 a2 := by
  cases e <;> (cases h; try rfl)
def asTup : Expr → Option ((List Expr) × Nat × Pos)
  | .Tuple a0 a1 a2 => some (a0, a1, a2)
  | _ => none
theorem asTup_ok {e : Expr} {a0 : List Expr} {a1 : Nat} {a2 : Pos} (h : asTup e = some (a0, a1, a2)) : e = .Tuple a0 a1 a2 := by
  cases e <;> (cases h; try rfl)
def asLst : Expr → Option ((List Expr) × Pos)
  | .List a0 a1 => some (a0, a1)
  | _ => none
theorem asLst_ok {e : Expr} {a0 : List Expr} {a1 : Pos} (h : asLst e = some (a0, a1)) : e = .List a0 a1 := by
  cases e <;> (cases h; try rfl)
def asDict : Expr → Option ((List (Option Expr)) × (List Expr) × Pos)
  | .Dict a0 a1 a2 => some (a0, a1, a2)
  | _ => none
theorem asDict_ok {e : Expr} {a0 : List (Option Expr)} {a1 : List Expr} {a2 : Pos} (h : asDict e = some (a0, a1, a2)) : e = .Dict a0 a1 a2 := by
  cases e <;> (cases h; try rfl)
def asBin : Expr → Option (Expr × Operator × Expr × Pos)
  | .BinOp a0 a1 a2 a3 => some (a0, a1, a2, a3)
  | _ => none
theorem asBin_ok {e : Expr} {a0 : Expr} {a1 : Operator} {a2 : Expr} {a3 : Pos} (h : asBin e = some (a0, a1, a2, a3)) : e = .BinOp a0 a1 a2 a3 := by
  cases e <;> (cases h; try rfl)
def asUn : Expr → Option (UnaryOp × Expr × Pos)
  | .UnaryOp a0 a1 a2 => some (a0, a1, a2)
  | _ => none
theorem asUn_ok {e : Expr} {a0 : UnaryOp} {a1 : Expr} {a2 : Pos} (h : asUn e = some (a0, a1, a2)) : e = .UnaryOp a0 a1 a2 := by
  cases e <;> (cases h; try rfl)
def asCmp : Expr → Option (Expr × (List CmpOp) × (List Expr) × Pos)
  | .Compare a0 a1 a2 a3 => some (a0, a1, a2, a3)
  | _ => none
theorem asCmp_ok {e : Expr} {a0 : Expr} {a1 : List CmpOp} {a2 : List Expr} {a3 : Pos} (h : asCmp e = some (a0, a1, a2, a3)) : e = .Compare a0 a1 a2 a3 := by
  cases e <;> (cases h; try rfl)
def asBool : Expr → Option (BoolOp × (List Expr) × Pos)
  | .BoolOp a0 a1 a2 => some (a0, a1, a2)
  | _ => none
theorem asBool_ok {e : Expr} {a0 : BoolOp} {a1 : List Expr} {a2 : Pos} (h : asBool e = some (a0, a1, a2)) : e = .BoolOp a0 a1 a2 := by
  cases e <;> (cases h; try rfl)
def asIf : Expr → Option (Expr × Expr × Expr × Pos)
  | .IfExp a0 a1 a2 a3 => some (a0, a1, a2, a3)
  | _ => none
theorem asIf_ok {e : Expr} {a0 : Expr} {a1 : Expr} {a2 : Expr} {a3 : Pos} (h : asIf e = some (a0, a1, a2, a3)) : e = .IfExp a0 a1 a2 a3 := by
  cases e <;> (cases h; try rfl)
def asSub : Expr → Option (Expr × Expr × Pos)
  | .Subscript a0 a1 a2 => some (a0, a1, a2)
  | _ => none
theorem asSub_ok {e : Expr} {a0 : Expr} {a1 : Expr} {a2 : Pos} (h : asSub e = some (a0, a1, a2)) : e = .Subscript a0 a1 a2 := by
  cases e <;> (cases h; try rfl)
def asSlc : Expr → Option ((Option Expr) × (Option Expr) × (Option Expr) × Pos)
  | .Slice a0 a1 a2 a3 => some (a0, a1, a2, a3)
  | _ => none
theorem asSlc_ok {e : Expr} {a0 : Option Expr} {a1 : Option Expr} {a2 : Option Expr} {a3 : Pos} (h : asSlc e = some (a0, a1, a2, a3)) : e = .Slice a0 a1 a2 a3 := by
  cases e <;> (cases h; try rfl)
def asCall : Expr → Option (Expr × (List Expr) × (List Keyword) × Pos)
  | .Call a0 a1 a2 a3 => some (a0, a1, a2, a3)
  | _ => none
theorem asCall_ok {e : Expr} {a0 : Expr} {a1 : List Expr} {a2 : List Keyword} {a3 : Pos} (h : asCall e = some (a0, a1, a2, a3)) : e = .Call a0 a1 a2 a3 := by
  cases e <;> (cases h; try rfl)
def asAtt : Expr → Option (Expr × Str × Pos)
  | .Attribute a0 a1 a2 => some (a0, a1, a2)
  | _ => none
theorem asAtt_ok {e : Expr} {a0 : Expr} {a1 : Str} {a2 : Pos} (h : asAtt e = some (a0, a1, a2)) : e = .Attribute a0 a1 a2 := by
  cases e <;> (cases h; try rfl)
def asLC : Expr → Option (Expr × (List Comprehension) × Scope × Pos)
  | .ListComp a0 a1 a2 a3 => some (a0, a1, a2, a3)
  | _ => none
theorem asLC_ok {e : Expr} {a0 : Expr} {a1 : List Comprehension} {a2 : Scope} {a3 : Pos} (h : asLC e = some (a0, a1, a2, a3)) : e = .ListComp a0 a1 a2 a3 := by
  cases e <;> (cases h; try rfl)
def asSC : Expr → Option (Expr × (List Comprehension) × Scope × Pos)
  | .SetComp a0 a1 a2 a3 => some (a0, a1, a2, a3)
  | _ => none
theorem asSC_ok {e : Expr} {a0 : Expr} {a1 : List Comprehension} {a2 : Scope} {a3 : Pos} (h : asSC e = some (a0, a1, a2, a3)) : e = .SetComp a0 a1 a2 a3 := by
  cases e <;> (cases h; try rfl)
def asJoined : Expr → Option ((List Expr) × Pos)
  | .JoinedStr a0 a1 => some (a0, a1)
  | _ => none
theorem asJoined_ok {e : Expr} {a0 : List Expr} {a1 : Pos} (h : asJoined e = some (a0, a1)) : e = .JoinedStr a0 a1 := by
  cases e <;> (cases h; try rfl)
def asFmt : Expr → Option (Expr × Int × (Option Expr) × Pos)
  | .FormattedValue a0 a1 a2 a3 => some (a0, a1, a2, a3)
  | _ => none
theorem asFmt_ok {e : Expr} {a0 : Expr} {a1 : Int} {a2 : Option Expr} {a3 : Pos} (h : asFmt e = some (a0, a1, a2, a3)) : e = .FormattedValue a0 a1 a2 a3 := by
  cases e <;> (cases h; try rfl)
def asStar : Expr → Option (Expr × Pos)
  | .Starred a0 a1 => some (a0, a1)
  | _ => none
theorem asStar_ok {e : Expr} {a0 : Expr} {a1 : Pos} (h : asStar e = some (a0, a1)) : e = .Starred a0 a1 := by
  cases e <;> (cases h; try rfl)
def cstOf : ME → Option S
  | .cst (.str z) => some z
  | _ => none
theorem cstOf_ok {m : ME} {z : S} (h : cstOf m = some z) : m = .cst (.str z) := by
  unfold cstOf at h
  split at h
  · cases h; rfl
  · cases h
def asRet : Stmt → Option ((Option Expr) × Pos)
  | .Return a0 a1 => some (a0, a1)
  | _ => none
theorem asRet_ok {e : Stmt} {a0 : Option Expr} {a1 : Pos} (h : asRet e = some (a0, a1)) : e = .Return a0 a1 := by
  cases e <;> (cases h; try rfl)
def asAsg : Stmt → Option ((List Expr) × Expr × Pos)
  | .Assign a0 a1 a2 => some (a0, a1, a2)
  | _ => none
theorem asAsg_ok {e : Stmt} {a0 : List Expr} {a1 : Expr} {a2 : Pos} (h : asAsg e = some (a0, a1, a2)) : e = .Assign a0 a1 a2 := by
  cases e <;> (cases h; try rfl)
def asFor : Stmt → Option (Expr × Expr × (List Stmt) × (List Stmt) × Pos)
  | .For a0 a1 a2 a3 a4 => some (a0, a1, a2, a3, a4)
  | _ => none
theorem asFor_ok {e : Stmt} {a0 : Expr} {a1 : Expr} {a2 : List Stmt} {a3 : List Stmt} {a4 : Pos} (h : asFor e = some (a0, a1, a2, a3, a4)) : e = .For a0 a1 a2 a3 a4 := by
  cases e <;> (cases h; try rfl)
def asWhl : Stmt → Option (Expr × (List Stmt) × (List Stmt) × Pos)
  | .While a0 a1 a2 a3 => some (a0, a1, a2, a3)
  | _ => none
theorem asWhl_ok {e : Stmt} {a0 : Expr} {a1 : List Stmt} {a2 : List Stmt} {a3 : Pos} (h : asWhl e = some (a0, a1, a2, a3)) : e = .While a0 a1 a2 a3 := by
  cases e <;> (cases h; try rfl)
def asSIf : Stmt → Option (Expr × (List Stmt) × (List Stmt) × Pos)
  | .If a0 a1 a2 a3 => some (a0, a1, a2, a3)
  | _ => none
theorem asSIf_ok {e : Stmt} {a0 : Expr} {a1 : List Stmt} {a2 : List Stmt} {a3 : Pos} (h : asSIf e = some (a0, a1, a2, a3)) : e = .If a0 a1 a2 a3 := by
  cases e <;> (cases h; try rfl)
def asEx : Stmt → Option (Expr × Pos)
  | .Expr a0 a1 => some (a0, a1)
  | _ => none
theorem asEx_ok {e : Stmt} {a0 : Expr} {a1 : Pos} (h : asEx e = some (a0, a1)) : e = .Expr a0 a1 := by
  cases e <;> (cases h; try rfl)
def asPass : Stmt → Option (Pos)
  | .Pass a0 => some a0
  | _ => none
theorem asPass_ok {e : Stmt} {a0 : Pos} (h : asPass e = some a0) : e = .Pass a0 := by
  cases e <;> (cases h; try rfl)
def asBrk : Stmt → Option (Pos)
  | .Break a0 => some a0
  | _ => none
theorem asBrk_ok {e : Stmt} {a0 : Pos} (h : asBrk e = some a0) : e = .Break a0 := by
  cases e <;> (cases h; try rfl)
def asCnt : Stmt → Option (Pos)
  | .Continue a0 => some a0
  | _ => none
theorem asCnt_ok {e : Stmt} {a0 : Pos} (h : asCnt e = some a0) : e = .Continue a0 := by
  cases e <;> (cases h; try rfl)
def isRevE (e : Expr) : Bool := match asSlc e with
  | some (none, none, some st, _) => match asUn st with
    | some (.USub, c, _) => match asConst c with
      | some (.int i, _, _) => i == 1
      | _ => false
    | _ => false
  | _ => false
def tyB (t : Ty) (x : Str) : Bool := match tyS t with
  | some n => decide (Str.ofString n = x)
  | none => false
mutual
def chkE (N : List Str) (T : Tb) : ME → Scope → Expr → Bool
  | .var i, sc, e => match asName e with
    | some (x, _) => decide (N[i]? = some x) && visB sc x && okN x
    | none => false
  | .cst d, _, e => match asConst e with
    | some (c, _, _) => cstB d c
    | none => false
  | .glb g, sc, e => match asName e with
    | some (x, _) => decide (T.gN g = x) && glB sc x && T.gD g
    | none => false
  | .tup ms, sc, e => match asTup e with
    | some (es, _, _) => es.all notStar && chkL N T ms sc es
    | none => false
  | .lst _ ms, sc, e => match asLst e with
    | some (es, _) => es.all notStar && chkL N T ms sc es
    | none => false
  | .dsp _ ks vs, sc, e => match asDict e with
    | some (keys, values, _) => keysOk keys values && chkK N T ks sc keys && chkL N T vs sc values
    | none => false
  | .bin op a b, sc, e => match asBin e with
    | some (ea, op', eb, _) => opB op op' && chkE N T a sc ea && chkE N T b sc eb
    | none => false
  | .neg a, sc, e => match asUn e with
    | some (.USub, ea, _) => chkE N T a sc ea
    | _ => false
  | .nt a, sc, e => match asUn e with
    | some (.Not, ea, _) => chkE N T a sc ea
    | _ => false
  | .cmp op a b, sc, e => match asCmp e with
    | some (ea, [op'], [eb], _) => copB op op' && notSet eb && chkE N T a sc ea && chkE N T b sc eb
    | _ => false
  | .chn op op2 a b c, sc, e => match asCmp e with
    | some (ea, [op', op2'], [eb, ec], _) => copB op op' && copB op2 op2' && notSet ec && chkE N T a sc ea && chkE N T b sc eb && chkE N T c sc ec
    | _ => false
  | .andE ms, sc, e => match asBool e with
    | some (.And, es, _) => !es.isEmpty && chkL N T ms sc es
    | _ => false
  | .orE ms, sc, e => match asBool e with
    | some (.Or, es, _) => !es.isEmpty && chkL N T ms sc es
    | _ => false
  | .ife c a b, sc, e => match asIf e with
    | some (ec, ea, eb, _) => chkE N T c sc ec && chkE N T a sc ea && chkE N T b sc eb
    | none => false
  | .idx a i, sc, e => match asSub e with
    | some (ea, ei, _) => plainIx ei && chkE N T a sc ea && chkE N T i sc ei
    | none => false
  | .slc a lo hi, sc, e => match asSub e with
    | some (ea, es, _) => match asSlc es with
      | some (elo, ehi, none, _) => chkE N T a sc ea && chkO N T lo sc elo && chkO N T hi sc ehi
      | _ => false
    | none => false
  | .rev a, sc, e => match asSub e with
    | some (ea, es, _) => isRevE es && chkE N T a sc ea
    | none => false
  | .isi a ts, sc, e => match asCall e with
    | some (f, [ea, e2], [], _) => match asName f, ts with
      | some (fx, _), [t] => match asName e2 with
        | some (x, _) => decide (fx = "isinstance") && glB sc fx && tyB t x && glB sc x && notStar ea && chkE N T a sc ea
        | none => false
      | some (fx, _), [t, t2] => match asTup e2 with
        | some ([n1, n2], _, _) => match asName n1, asName n2 with
          | some (x, _), some (x2, _) => decide (fx = "isinstance") && glB sc fx && tyB t x && glB sc x && tyB t2 x2 && glB sc x2 && notStar ea && chkE N T a sc ea
          | _, _ => false
        | _ => false
      | _, _ => false
    | _ => false
  | .call f ms, sc, e => match asCall e with
    | some (fe, es, [], _) => match asName fe with
      | some (x, _) => decide (T.uN f = x) && glB sc x && es.all notStar && chkL N T ms sc es
      | none => false
    | _ => false
  | .bif b ms, sc, e => match asCall e with
    | some (fe, es, [], _) => match asName fe with
      | some (x, _) => biOk b && decide ((biN b).1 = x) && glB sc x && !es.isEmpty && es.all notStar && chkL N T ms sc es
      | none => false
    | _ => false
  | .bim m o ms, sc, e => match asCall e with
    | some (fe, es, [], cpos) => match asAtt fe with
      | some (eo, x, apos) => decide (bmN m = x) && plainBase eo && (apos.endLine == cpos.line) && es.all notStar && decide (es.length < 29) && (if es.isEmpty then bmOk0 m else bmOk m) && chkE N T o sc eo && chkL N T ms sc es
      | none => false
    | _ => false
  | .lc _ g it ifs e, sc, e0 => match asLC e0 with
    | some (elt, [⟨tg, iter, eifs, 0⟩], scope, _) => notSet iter && blkC N sc scope (ownOf g tg) && tgB N (ownB scope) g tg && decide ((ownOf g tg).map (·.2) = slotsG g) && decide (eifs.length ≤ 1) && chkE N T it sc iter && chkL N T ifs (relS scope sc) eifs && chkE N T e (relS scope sc) elt
    | _ => false
  | .rng1 a, sc, e => match asCall e with
    | some (f, [ea], [], _) => match asName f with
      | some (x, _) => decide (x = "range") && glB sc x && notStar ea && chkE N T a sc ea
      | none => false
    | _ => false
  | .rng2 a b, sc, e => match asCall e with
    | some (f, [ea, eb], [], _) => match asName f with
      | some (x, _) => decide (x = "range") && glB sc x && notStar ea && notStar eb && chkE N T a sc ea && chkE N T b sc eb
      | none => false
    | _ => false
  | .fst ms, sc, e => match asJoined e with
    | some (es, _) => decide (2 ≤ es.length) && chkF N T ms sc es
    | none => false
  | .att o f, sc, e => match asAtt e with
    | some (eo, x, _) => decide (T.fN f = x) && plainBase eo && chkE N T o sc eo
    | none => false
  | .mk c f ms, sc, e => match asCall e with
    | some (fe, es, [], _) => match asName fe with
      | some (x, _) => decide (T.cN c = x) && T.cD c && glB sc x && !es.isEmpty && es.all notStar && chkL N T ms sc es
      | none => false
    | _ => false
  | .mkS c f o a, sc, e => match asCall e with
    | some (fe, [ea], [], _) => match asName fe, asStar ea with
      | some _, some (es, _) => chkE N T o sc fe && chkE N T a sc es
      | _, _ => false
    | _ => false
  | .prp o f, sc, e => match asAtt e with
    | some (eo, x, _) => decide (T.uN f = x) && plainBase eo && chkE N T o sc eo
    | none => false
  | .cmt c f ms, sc, e => match asCall e with
    | some (fe, es, [], cpos) => match asAtt fe with
      | some (eo, m, apos) => match asName eo with
        | some (x, _) => decide (T.cN c = x) && T.cD c && glB sc x && decide (T.uN f = m) && !es.isEmpty && es.all notStar && decide (es.length < 29) && (apos.endLine == cpos.line) && chkL N T ms sc es
        | none => false
      | none => false
    | _ => false
  | .sob o f, sc, e => match asCall e with
    | some (fe, [ea], [], _) => match asName fe with
      | some (x, _) => decide (x = "str") && glB sc x && notStar ea && chkE N T o sc ea
      | none => false
    | _ => false
  | .lsc g it g2 it2 e, sc, e0 => match asCall e0 with
    | some (fe, [ea], [], _) => match asName fe, asSC ea with
      | some (x, _), some (elt, [⟨t0, u, [], 0⟩, ⟨t1, v, [], 0⟩], scope, _) => decide (x = "len") && glB sc x && notSet u && notSet v && blkC N sc scope (ownOf g t0 ++ ownOf g2 t1) && tgB N (ownB scope) g t0 && tgB N (ownB scope) g2 t1 &&
          decide ((ownOf g t0 ++ ownOf g2 t1).map (·.2) = slotsG g ++ slotsG g2) && chkE N T it sc u && chkE N T it2 (relS scope sc) v && chkE N T e (relS scope sc) elt
      | _, _ => false
    | _ => false
  | .frz m, sc, e => plainTest e && chkE N T m sc e
  | .gcl c, sc, e => match asName e with
    | some (x, _) => decide (T.cN c = x) && T.cD c && glB sc x
    | none => false
  | .mk0 c f, sc, e => match asCall e with
    | some (fe, [], [], _) => match asName fe with
      | some (x, _) => decide (T.cN c = x) && T.cD c && glB sc x
      | none => false
    | _ => false
  | .lno o f, sc, e => match asCall e with
    | some (fe, [ea], [], _) => match asName fe with
      | some (x, _) => decide (x = "len") && glB sc x && notStar ea && chkE N T o sc ea
      | none => false
    | _ => false
  | .isc a c, sc, e => match asCall e with
    | some (fe, [ea, e2], [], _) => match asName fe, asName e2 with
      | some (fx, _), some (x, _) => decide (fx = "isinstance") && glB sc fx && decide (T.cN c = x) && T.cD c && glB sc x && notStar ea && chkE N T a sc ea
      | _, _ => false
    | _ => false
  | .meth f o ms, sc, e => match asCall e with
    | some (fe, es, [], cpos) => match asAtt fe with
      | some (eo, m, apos) => decide (T.uN f = m) && plainBase eo && (apos.endLine == cpos.line) && es.all notStar && decide (es.length < 28) && chkE N T o sc eo && chkL N T ms sc es
      | none => false
    | _ => false
  | .kmt f o ms a, sc, e => match asCall e with
    | some (fe, es, [⟨some kn, ea, _⟩], cpos) => match asAtt fe with
      | some (eo, m, apos) => decide (T.uN f = m) && decide (T.kN f = kn) && plainBase eo && (apos.endLine == cpos.line) && !es.isEmpty && es.all notStar && decide (es.length < 28) && chkE N T o sc eo && chkL N T ms sc es && chkE N T a sc ea
      | none => false
    | _ => false
  | .eqo f a b, sc, e => match asCmp e with
    | some (ea, [op'], [eb], _) => copB .Eq op' && notSet eb && chkE N T a sc ea && chkE N T b sc eb
    | _ => false
  | _, _, _ => false
termination_by structural m => m
/-- the parts of an f-string -/
def chkF (N : List Str) (T : Tb) : List ME → Scope → List Expr → Bool
  | [], _, [] => true
  | m :: ms, sc, e :: es => (match asConst e with
      | some (.str x, _, _) => match cstOf m with
        | some z => decide (mk z = x)
        | none => false
      | _ => match asFmt e with
        | some (ea, conv, none, _) => decide (conv = -1) && chkE N T m sc ea
        | _ => false) && chkF N T ms sc es
  | _, _, _ => false
termination_by structural m => m
def chkL (N : List Str) (T : Tb) : List ME → Scope → List Expr → Bool
  | [], _, [] => true
  | m :: ms, sc, e :: es => chkE N T m sc e && chkL N T ms sc es
  | _, _, _ => false
termination_by structural m => m
def chkO (N : List Str) (T : Tb) : Option ME → Scope → Option Expr → Bool
  | none, _, none => true
  | some m, sc, some e => chkE N T m sc e
  | _, _, _ => false
termination_by structural m => m
def chkK (N : List Str) (T : Tb) : List ME → Scope → List (Option Expr) → Bool
  | [], _, [] => true
  | m :: ms, sc, some e :: es => chkE N T m sc e && chkK N T ms sc es
  | _, _, _ => false
termination_by structural m => m
end
end EV

set_option Elab.async false
set_option linter.all false
set_option maxRecDepth 100000
set_option maxHeartbeats 4000000
namespace EV
open PySem PySem.Spec PyProof.Rows L2
def Snd1 (X : Cx) (C : Cn) (O : Orc) (m : ME) (e : Expr) : Prop := PE X e (tV C (sem O m).v) ∧ PT X e (tB_ C (sem O m).t) ∧ ∀ tg, PI X tg e (tI C (sem O m).w)
inductive Snd (X : Cx) (C : Cn) (O : Orc) : List ME → List Expr → Prop
  | nil : Snd X C O [] []
  | cons {m : ME} {ms : List ME} {e : Expr} {es : List Expr} : Snd1 X C O m e → Snd X C O ms es → Snd X C O (m :: ms) (e :: es)
structure Cg (X : Cx) (C : Cn) (T : Tb) (O : Orc) (k : Nat) (N : List Str) (sc : Scope) : Prop where
  gd : Gd X C T O k
  hN : X.N = N
  nd : N.Nodup
  sc : X.env.scope = sc
section
variable {X : Cx} {C : Cn} {T : Tb} {O : Orc} {k : Nat} {N : List Str} {sc : Scope} {e : Expr} {m : ME} {ms : List ME} {es : List Expr} {pos : Pos}
theorem Gd.blk (G : Gd X C T O k) (s : Shared) (H : Hp) (scope : Scope) (env : Env) (fp : List Addr) : Gd (X.blk s H scope env fp) C T O k :=
  ⟨G.K, G.w, G.fN, G.calm, rfl, G.rs, G.free, G.glb, G.okF, G.inj, G.isF, G.okM, G.cls, G.okX, G.okY, G.okZ, G.call, G.callK⟩
theorem Cg.blk (G : Cg X C T O k N sc) (s : Shared) (H : Hp) (scope : Scope) (cl : List (Str × Addr)) (C' : Addr) (fp : List Addr) : Cg (X.blk s H scope (compEnvC scope cl C' X.env) fp) C T O k N (relS scope sc) :=
  ⟨G.gd.blk _ _ _ _ _, G.hN, G.nd, by rw [← G.sc]; rfl⟩
theorem Snd.len (h : Snd X C O ms es) : ms.length = es.length := by
  induction h with
  | nil => rfl
  | cons _ _ ih => simp [ih]
theorem Snd.pa (h : Snd X C O ms es) (hn : es.all notStar = true) : PA X es (tL C (sems O ms)) := by
  induction h with
  | nil => exact s_nil
  | cons h1 h2 ih =>
    rw [List.all_cons, Bool.and_eq_true] at hn
    exact s_cons h1.1 (ih hn.2) hn.1
theorem pi_no {tg : Expr} : PI X tg e (tI C noI) := ⟨fun pins s σ H R I ⟨ρ, en, h, ds, h', sr, hr, e, q⟩ => by cases e⟩
theorem pi_no2 {tg : Expr} {f : En → MH → Option (List D × MH)} (hf : ∀ a b, f a b = none) : PI X tg e (tI C f) := ⟨fun pins s σ H R I ⟨ρ, en, h, ds, h', sr, hr, e, q⟩ => by rw [hf] at e; cases e⟩
theorem pe_no {f : En → MH → Option (D × MH)} (hf : ∀ a b, f a b = none) : PE X e (tV C f) := ⟨fun pins s σ H R I ⟨ρ, en, h, ds, h', sr, hr, e, q⟩ => by rw [hf] at e; cases e⟩
theorem pt_no {f : En → MH → Option (Bool × MH)} (hf : ∀ a b, f a b = none) : PT X e (tB_ C f) := ⟨fun pins s σ H R I ⟨ρ, en, h, ds, h', sr, hr, e, q⟩ => by rw [hf] at e; cases e⟩
theorem snd_val (G : Gd X C T O k) {v : En → MH → Option (D × MH)} (hm : sem O m = val v) (hp : PE X e (tV C v)) (hn : plainTest e = true) : Snd1 X C O m e := by
  unfold Snd1
  rw [hm]
  exact ⟨hp, s_tst G (sa := val v) hp hn, fun tg => s_it G (sa := val v) hp⟩
theorem s_frz {v : En → MH → Option (D × MH)} (hp : PE X e (tV C v)) : PE X e (tV C fun σ h => match v σ h with
    | some r => fin true h.length r
    | none => none) := by
  refine hp.imp fun σ H Q ⟨ρ, en, h, d, h', sr, hr, e, q⟩ => ?_
  dsimp only at e
  split at e
  · rename_i r he
    obtain ⟨d1, h1⟩ := r
    exact ⟨ρ, en, h, d1, h1, sr, hr, he, fun ρ1 H1 v1 x1 hr1 rv => fin_ok hr x1 hr1 rv e q⟩
  · cases e
theorem Snd.andV (G : Gd X C T O k) (h : Snd X C O ms es) (h0 : es ≠ []) : PE X (.BoolOp .And es pos) (tV C (EV.andV (sems O ms))) := by
  induction h with
  | nil => exact absurd rfl h0
  | cons h1 h2 ih =>
    cases h2 with
    | nil => exact s_and1V h1.1
    | cons h3 h4 => exact s_andV h1.1 (ih (by simp))
theorem Snd.orV (G : Gd X C T O k) (h : Snd X C O ms es) (h0 : es ≠ []) : PE X (.BoolOp .Or es pos) (tV C (EV.orV (sems O ms))) := by
  induction h with
  | nil => exact absurd rfl h0
  | cons h1 h2 ih =>
    cases h2 with
    | nil => exact s_or1V h1.1
    | cons h3 h4 => exact s_orV h1.1 (ih (by simp))
theorem Snd.andT (G : Gd X C T O k) (h : Snd X C O ms es) (h0 : es ≠ []) : PW X (.BoolOp .And es pos) (tB_ C (EV.andT (sems O ms))) := by
  induction h with
  | nil => exact absurd rfl h0
  | cons h1 h2 ih =>
    cases h2 with
    | nil => exact s_and1 h1.2.1
    | cons h3 h4 => exact s_andT h1.2.1 (ih (by simp))
theorem Snd.orT (G : Gd X C T O k) (h : Snd X C O ms es) (h0 : es ≠ []) : PW X (.BoolOp .Or es pos) (tB_ C (EV.orT (sems O ms))) := by
  induction h with
  | nil => exact absurd rfl h0
  | cons h1 h2 ih =>
    cases h2 with
    | nil => exact s_or1 h1.2.1
    | cons h3 h4 => exact s_orT h1.2.1 (ih (by simp))
theorem Snd.pts (h : Snd X C O ms es) (hl : es.length ≤ 1) : PTs X es (tTs C (sems O ms)) := by
  cases h with
  | nil => exact ⟨fun pins s σ H Q I ⟨ρ, en, h, b, h', sr, hr, e, q⟩ => pts_nil.run pins s σ H Q I (by cases e; exact q ρ H (Ext.refl _ _) hr)⟩
  | cons h1 h2 =>
    cases h2 with
    | nil => exact pts_one h1.2.1
    | cons _ _ => simp at hl
theorem s_chnT (G : Gd X C T O k) {op op' : CmpOp} {a b c : Expr} {sa sb sc : Sm} (ha : PE X a (tV C sa.v)) (hb : PE X b (tV C sb.v)) (hc : PE X c (tV C sc.v)) (hn : notSet c = true) : PT X (.Compare a [op, op'] [b, c] pos) (tB_ C (truS (chain op op' sa sb sc))) :=
  (pt_chain (op_cmp G.K G.w G.hu) (op_cmp G.K G.w G.hu) ha hb hc (last_ok hn)).imp fun σ H Q ⟨ρ, en, h, b0, h', sr, hr, e0, q⟩ => by
    unfold truS at e0
    split at e0
    · rename_i d h9 e
      obtain ⟨b1, hb1, e9⟩ := Option.map_eq_some_iff.mp e0
      cases e9
      have q : ∀ b, d = .bl b → AnsB C ρ H h' (Q b) := fun b eb => by
        subst eb
        cases hb1
        exact q
      unfold chain at e
      split at e
      · rename_i x h1 hx
        split at e
        · rename_i y h2 hy
          refine ⟨ρ, en, h, x, h1, sr, hr, hx, fun ρ1 H1 v x1 hr1 rv => ⟨ρ1, en, h1, y, h2, sr.mono x1, hr1, hy, fun ρ2 H2 w x2 hr2 rw2 => ?_⟩⟩
          split at e
          · rename_i hc1
            split at e
            · rename_i z h3 hz
              obtain ⟨r, hr3, e2⟩ := Option.map_eq_some_iff.mp e
              obtain ⟨bb, hbb, e3⟩ := Option.map_eq_some_iff.mp hr3
              subst e3
              cases e2
              refine ⟨ρ2, h2, x, y, true, hr2, rv.mono x2, rw2, hc1, fun ρ3 H3 u x3 hr3 ru => ?_⟩
              cases ru
              refine ⟨true, rfl, iteT ⟨ρ3, en, h2, z, _, sr.mono ((x1.trans x2).trans x3), hr3, hz, fun ρ4 H4 u4 x4 hr4 ru4 => ?_⟩⟩
              exact ⟨ρ4, _, y, z, bb, hr4, (rw2.mono x3).mono x4, ru4, hbb, fun ρ5 H5 u5 x5 hr5 ru5 => by
                cases ru5
                exact ⟨bb, rfl, q bb rfl ρ5 H5 ((((x1.trans x2).trans x3).trans x4).trans x5) hr5⟩⟩
            · cases e
          · rename_i hc1
            cases e
            refine ⟨ρ2, _, x, y, false, hr2, rv.mono x2, rw2, hc1, fun ρ3 H3 u x3 hr3 ru => ?_⟩
            cases ru
            exact ⟨false, rfl, iteF ⟨false, rfl, q false rfl ρ3 H3 ((x1.trans x2).trans x3) hr3⟩⟩
          · cases e
        · cases e
      · cases e
    · cases e0
theorem tgB_go {ok : Str → Bool} (hok : ∀ x, ok x = true → Loc X.env.scope x ∧ (X.fn x = true ∨ X.env.scope.names.lookup x = some .local)) : ∀ {is : List Nat} {es : List Expr}, tgB.go X.N ok is es = true → NmS X es is
  | [], [], _ => .nil
  | i :: is, e :: es, h => by
    cases e <;> first | (cases h; done) | skip
    rename_i x p
    have h : (decide (X.N[i]? = some x) && ok x && tgB.go X.N ok is es) = true := h
    simp only [Bool.and_eq_true, decide_eq_true_eq] at h
    exact .cons ⟨h.1.1, hok _ h.1.2⟩ (tgB_go hok h.2)
  | [], _ :: _, h => by cases h
  | _ :: _, [], h => by cases h
theorem s_tg {ok : Str → Bool} {mg : MG} {tg : Expr} (G : Gd X C T O k) (nd : X.N.Nodup) (hok : ∀ x, ok x = true → Loc X.env.scope x ∧ (X.fn x = true ∨ X.env.scope.names.lookup x = some .local)) (h : tgB X.N ok mg tg = true) : PG X tg (tG C mg) := by
  unfold tgB at h
  split at h
  · rw [Bool.and_eq_true, decide_eq_true_eq] at h
    exact s_tgN nd ⟨h.1, hok _ h.2⟩
  · exact s_tgT G nd (tgB_go hok h)
  · cases h
theorem Snd.pps : ∀ {ks vs : List ME} {keys : List (Option Expr)} {values : List Expr}, (∃ kes, keys = kes.map some ∧ Snd X C O ks kes) → Snd X C O vs values → keys.length = values.length → PPs X pos keys values (trsP C (sems O ks) (sems O vs))
  | [], vs, _, _, ⟨_, rfl, .nil⟩, hv, hl => by
    cases hv with
    | nil => exact pps_nil
    | cons _ _ => cases hl
  | k :: ks, _, _, _, ⟨_, rfl, .cons h1 h2⟩, hv, hl => by
    cases hv with
    | nil => cases hl
    | cons h3 h4 => exact pps_cons h1.1 h3.1 (Snd.pps ⟨_, rfl, h2⟩ h4 (by simpa using hl))
end
end EV

set_option Elab.async false
set_option linter.all false
set_option maxRecDepth 100000
set_option maxHeartbeats 8000000
namespace EV
open PySem PySem.Spec PyProof.Rows L2
section
variable {C : Cn} {T : Tb} {O : Orc} {k : Nat} {N : List Str}
theorem cst_ok {X : Cx} {d : D} {c : Const} {j : Nat} {pos : Pos} (h : cstB d c = true) : ∃ v, PE X (.Constant c j pos) (tC v) ∧ ∀ ρ H, RD C ρ H d v := by
  unfold cstB at h
  split at h
  · exact ⟨_, pe_non, fun _ _ => .non⟩
  · cases eq_of_beq h; exact ⟨_, pe_bl, fun _ _ => .bl _⟩
  · cases eq_of_beq h; exact ⟨_, pe_int, fun _ _ => .int _⟩
  · rw [Bool.and_eq_true, decide_eq_true_eq] at h
    obtain ⟨h1, h2⟩ := h
    subst h1
    exact ⟨_, pe_str, fun _ _ => .str _ h2⟩
  · cases h
theorem tyB_ok {t : Ty} {x : Str} (h : tyB t x = true) : ∃ n, tyS t = some n ∧ Str.ofString n = x := by
  unfold tyB at h
  split at h
  · rename_i n hn; exact ⟨n, hn, of_decide_eq_true h⟩
  · cases h
theorem ne_of_isEmpty {α : Type} {l : List α} (h : (!l.isEmpty) = true) : l ≠ [] := by
  intro e; subst e; cases h
theorem own_ok {X : Cx} {sc scope : Scope} {s : Shared} {H : Hp} {cl : List (Str × Addr)} {C' : Addr} {fp : List Addr} {x : Str} (hsc : X.env.scope = sc) (h : ownB scope x = true) :
    Loc (X.blk s H scope (compEnvC scope cl C' X.env) fp).env.scope x ∧ ((X.blk s H scope (compEnvC scope cl C' X.env) fp).fn x = true ∨ (X.blk s H scope (compEnvC scope cl C' X.env) fp).env.scope.names.lookup x = some .local) := by
  have e : (compEnvC scope cl C' X.env).scope = relS scope X.env.scope := rfl
  unfold ownB at h
  split at h
  · rename_i q
    have := lookup_relS_keep (sc := X.env.scope) (by decide : NameKind.local ≠ .free) q
    exact ⟨.inl this, .inr this⟩
  · rename_i q
    have := lookup_relS_keep (sc := X.env.scope) (by decide : NameKind.cell ≠ .free) q
    exact ⟨.inr this, .inl (by show (scope.names.lookup x == some .cell) = true; rw [q]; rfl)⟩
  · cases h
mutual
theorem sndE : ∀ (m : ME) {X : Cx} {sc : Scope} {e : Expr}, Cg X C T O k N sc → chkE N T m sc e = true → Snd1 X C O m e
  | .var i, X, sc, e, G, h => by
    simp only [chkE] at h
    split at h
    · rename_i x p he
      rw [asName_ok he]
      simp only [Bool.and_eq_true, decide_eq_true_eq] at h
      exact snd_val G.gd rfl (s_var (O := O) (by rw [G.hN]; exact h.1.1) (by rw [G.sc]; exact h.1.2) h.2) rfl
    · cases h
  | .cst d, X, sc, e, G, h => by
    simp only [chkE] at h
    split at h
    · rename_i c a b he
      rw [asConst_ok he]
      obtain ⟨v, h1, h2⟩ := cst_ok (X := X) (C := C) (j := a) (pos := b) h
      exact snd_val G.gd rfl (s_cst (O := O) h1 h2) rfl
    · cases h
  | .glb g, X, sc, e, G, h => by
    simp only [chkE] at h
    split at h
    · rename_i x p he
      rw [asName_ok he]
      simp only [Bool.and_eq_true, decide_eq_true_eq] at h
      exact snd_val G.gd rfl (s_glb G.gd h.1.1 (by rw [G.sc]; exact h.1.2) h.2) rfl
    · cases h
  | .tup ms, X, sc, e, G, h => by
    simp only [chkE] at h
    split at h
    · rename_i es a b he
      rw [asTup_ok he]
      rw [Bool.and_eq_true] at h
      exact snd_val G.gd rfl (s_tup ((sndL ms G h.2).pa h.1)) rfl
    · cases h
  | .lst fz ms, X, sc, e, G, h => by
    simp only [chkE] at h
    split at h
    · rename_i es b he
      rw [asLst_ok he]
      rw [Bool.and_eq_true] at h
      exact snd_val G.gd rfl (s_lst ((sndL ms G h.2).pa h.1)) rfl
    · cases h
  | .dsp fz ks vs, X, sc, e, G, h => by
    simp only [chkE] at h
    split at h
    · rename_i keys values b he
      rw [asDict_ok he]
      unfold keysOk at h
      simp only [Bool.and_eq_true, decide_eq_true_eq, beq_iff_eq] at h
      obtain ⟨⟨⟨⟨⟨h1, h2⟩, h3⟩, h4⟩, h5⟩, h6⟩ := h
      exact snd_val G.gd rfl (s_disp (Snd.pps (sndK ks G h5) (sndL vs G h6) h2) h1 h2 (ne_of_isEmpty h3) h4) rfl
    · cases h
  | .bin op a b, X, sc, e, G, h => by
    simp only [chkE] at h
    split at h
    · rename_i ea op' eb p he
      rw [asBin_ok he]
      simp only [Bool.and_eq_true] at h
      have := of_decide_eq_true h.1.1
      subst this
      exact snd_val G.gd rfl (s_bin G.gd (sndE a G h.1.2).1 (sndE b G h.2).1) rfl
    · cases h
  | .neg a, X, sc, e, G, h => by
    simp only [chkE] at h
    split at h
    · rename_i ea p he
      rw [asUn_ok he]
      exact snd_val G.gd rfl (s_neg (sndE a G h).1) rfl
    · cases h
  | .nt a, X, sc, e, G, h => by
    simp only [chkE] at h
    split at h
    · rename_i ea p he
      rw [asUn_ok he]
      have ha := sndE a G h
      exact ⟨s_not G.gd ha.1, s_notT ha.2.1, fun tg => pi_no⟩
    · cases h
  | .cmp op a b, X, sc, e, G, h => by
    simp only [chkE] at h
    split at h
    · rename_i ea op' eb p he
      rw [asCmp_ok he]
      simp only [Bool.and_eq_true] at h
      have := of_decide_eq_true h.1.1.1
      subst this
      have ha := (sndE a G h.1.2).1
      have hb := (sndE b G h.2).1
      have hp := s_cmp (pos := p) G.gd (op := op) ha hb h.1.1.2
      exact ⟨hp, s_cmpT G.gd ha hb h.1.1.2, fun tg => s_it G.gd (sa := sem O (.cmp op a b)) hp⟩
    · cases h
  | .chn op op2 a b c, X, sc, e, G, h => by
    simp only [chkE] at h
    split at h
    · rename_i ea op' op2' eb ec p he
      rw [asCmp_ok he]
      simp only [Bool.and_eq_true] at h
      have e1 := of_decide_eq_true h.1.1.1.1.1
      have e2 := of_decide_eq_true h.1.1.1.1.2
      subst e1
      subst e2
      have ha := (sndE a G h.1.1.2).1
      have hb := (sndE b G h.1.2).1
      have hc := (sndE c G h.2).1
      have hp := s_chn (pos := p) G.gd (op := op) (op' := op2) ha hb hc h.1.1.1.2
      exact ⟨hp, s_chnT G.gd ha hb hc h.1.1.1.2, fun tg => s_it G.gd (sa := sem O (.chn op op2 a b c)) hp⟩
    · cases h
  | .andE ms, X, sc, e, G, h => by
    simp only [chkE] at h
    split at h
    · rename_i es p he
      rw [asBool_ok he]
      rw [Bool.and_eq_true] at h
      have hs := sndL ms G h.2
      exact ⟨hs.andV G.gd (ne_of_isEmpty h.1), (hs.andT G.gd (ne_of_isEmpty h.1)).pt, fun tg => pi_no⟩
    · cases h
  | .orE ms, X, sc, e, G, h => by
    simp only [chkE] at h
    split at h
    · rename_i es p he
      rw [asBool_ok he]
      rw [Bool.and_eq_true] at h
      have hs := sndL ms G h.2
      exact ⟨hs.orV G.gd (ne_of_isEmpty h.1), (hs.orT G.gd (ne_of_isEmpty h.1)).pt, fun tg => pi_no⟩
    · cases h
  | .ife c a b, X, sc, e, G, h => by
    simp only [chkE] at h
    split at h
    · rename_i ec ea eb p he
      rw [asIf_ok he]
      simp only [Bool.and_eq_true] at h
      have hp := s_ife (pos := p) (sndE c G h.1.1).2.1 (sndE a G h.1.2).1 (sndE b G h.2).1
      exact ⟨hp, pt_no fun _ _ => rfl, fun tg => s_it G.gd (sa := val (ifV (sem O c) (sem O a) (sem O b))) hp⟩
    · cases h
  | .idx a i, X, sc, e, G, h => by
    simp only [chkE] at h
    split at h
    · rename_i ea ei p he
      rw [asSub_ok he]
      simp only [Bool.and_eq_true] at h
      exact snd_val G.gd rfl (s_idx G.gd (sndE a G h.1.2).1 (sndE i G h.2).1 h.1.1) rfl
    · cases h
  | .slc a lo hi, X, sc, e, G, h => by
    simp only [chkE] at h
    split at h
    · rename_i ea es p he
      rw [asSub_ok he]
      split at h
      · rename_i elo ehi p2 he2
        rw [asSlc_ok he2]
        simp only [Bool.and_eq_true] at h
        exact snd_val G.gd rfl (s_slc G.gd (sndE a G h.1.1).1 (sndO lo G h.1.2) (sndO hi G h.2)) rfl
      · cases h
    · cases h
  | .rev a, X, sc, e, G, h => by
    simp only [chkE] at h
    split at h
    · rename_i ea es p he
      rw [asSub_ok he]
      rw [Bool.and_eq_true] at h
      obtain ⟨h1, h2⟩ := h
      unfold isRevE at h1
      split at h1
      · rename_i st p1 q1
        rw [asSlc_ok q1]
        split at h1
        · rename_i c p2 q2
          rw [asUn_ok q2]
          split at h1
          · rename_i i kk p3 q3
            rw [asConst_ok q3]
            have := eq_of_beq h1
            subst this
            exact snd_val G.gd rfl (s_rev G.gd (sndE a G h2).1) rfl
          · cases h1
        · cases h1
      · cases h1
    · cases h
  | .isi a ts, X, sc, e, G, h => by
    simp only [chkE] at h
    split at h
    · rename_i f ea e2 p he
      rw [asCall_ok he]
      split at h
      · rename_i fx q1 t hf
        rw [asName_ok hf]
        split at h
        · rename_i x q2 he2
          rw [asName_ok he2]
          simp only [Bool.and_eq_true, decide_eq_true_eq] at h
          obtain ⟨⟨⟨⟨⟨h1, h2⟩, h3⟩, h4⟩, h5⟩, h6⟩ := h
          subst h1
          obtain ⟨n, t1, t2⟩ := tyB_ok h3
          exact snd_val G.gd rfl (s_isi1 G.gd (sndE a G h6).1 t1 t2 (by rw [G.sc]; exact h4) (by rw [G.sc]; exact h2) h5) rfl
        · cases h
      · rename_i fx q1 t t2 hf
        rw [asName_ok hf]
        split at h
        · rename_i n1 n2 kk q2 he2
          rw [asTup_ok he2]
          split at h
          · rename_i x q3 x2 q4 hx1 hx2
            rw [asName_ok hx1, asName_ok hx2]
            simp only [Bool.and_eq_true, decide_eq_true_eq] at h
            obtain ⟨⟨⟨⟨⟨⟨⟨h1, h2⟩, h3⟩, h4⟩, h7⟩, h8⟩, h5⟩, h6⟩ := h
            subst h1
            obtain ⟨n, t1, t2⟩ := tyB_ok h3
            obtain ⟨n', t1', t2'⟩ := tyB_ok h7
            exact snd_val G.gd rfl (s_isi2 G.gd (sndE a G h6).1 t1 t2 (by rw [G.sc]; exact h4) t1' t2' (by rw [G.sc]; exact h8) (by rw [G.sc]; exact h2) h5) rfl
          · cases h
        · cases h
      · cases h
    · cases h
  | .call f ms, X, sc, e, G, h => by
    simp only [chkE] at h
    split at h
    · rename_i fe es p he
      rw [asCall_ok he]
      split at h
      · rename_i x q hx
        rw [asName_ok hx]
        simp only [Bool.and_eq_true, decide_eq_true_eq] at h
        have hs := sndL ms G h.2
        cases hs with
        | nil => exact snd_val G.gd rfl (s_call0 G.gd h.1.1.1 (by rw [G.sc]; exact h.1.1.2)) rfl
        | cons a b => exact snd_val G.gd rfl (s_call G.gd h.1.1.1 (by rw [G.sc]; exact h.1.1.2) ((Snd.cons a b).pa h.1.2) h.1.2) rfl
      · cases h
    · cases h
  | .bif b ms, X, sc, e, G, h => by
    simp only [chkE] at h
    split at h
    · rename_i fe es p he
      rw [asCall_ok he]
      split at h
      · rename_i x q hx
        rw [asName_ok hx]
        simp only [Bool.and_eq_true, decide_eq_true_eq] at h
        obtain ⟨⟨⟨⟨⟨h1, h2⟩, h3⟩, h4⟩, h5⟩, h6⟩ := h
        subst h2
        have hs := sndL ms G h6
        obtain ⟨hb, hf⟩ := biK G.gd h1
        cases hs with
        | nil => cases h4
        | cons a b => exact snd_val G.gd rfl (s_bif G.gd hb hf (by rw [G.sc]; exact h3) ((Snd.cons a b).pa h5) h5) rfl
      · cases h
    · cases h
  | .bim m o ms, X, sc, e, G, h => by
    simp only [chkE] at h
    split at h
    · rename_i fe es p he
      rw [asCall_ok he]
      split at h
      · rename_i eo x q hx
        rw [asAtt_ok hx]
        simp only [Bool.and_eq_true, decide_eq_true_eq] at h
        obtain ⟨⟨⟨⟨⟨⟨⟨h1, h2⟩, h3⟩, h4⟩, h5⟩, h6⟩, h7⟩, h8⟩ := h
        subst h1
        have hs := sndL ms G h8
        cases hs with
        | nil => exact snd_val G.gd rfl (s_bim0 G.gd h6 (sndE o G h7).1 h2 h3) rfl
        | cons a b => exact snd_val G.gd rfl (s_bim G.gd h6 (sndE o G h7).1 ((Snd.cons a b).pa h4) h4 h5 h2 h3) rfl
      · cases h
    · cases h
  | .lc fz g it ifs e, X, sc, e0, G, h => by
    simp only [chkE] at h
    split at h
    · rename_i elt tg iter eifs scope p he
      rw [asLC_ok he]
      simp only [Bool.and_eq_true, decide_eq_true_eq] at h
      obtain ⟨⟨⟨⟨⟨⟨⟨h1, h2⟩, h3⟩, h4⟩, h5⟩, h6⟩, h7⟩, h8⟩ := h
      have ok : BlkOk X.N X.env.scope scope (ownOf g tg) := by rw [G.hN, G.sc]; exact blkOk_by h2
      have hp := pe_lc (pos := p) G.gd.calm (by rw [G.hN]; exact G.nd) ((sndE it G h6).2.2 tg) ok
        (fun s H C' cl fp => s_tg (ok := ownB scope) (G.gd.blk s H scope _ fp) (by show X.N.Nodup; rw [G.hN]; exact G.nd) (fun x hx => own_ok G.sc hx) (by show tgB X.N _ _ _ = true; rw [G.hN]; exact h3))
        (fun s H C' cl fp => (sndL ifs (G.blk s H scope cl C' fp) h7).pts h5)
        (fun s H C' cl fp => (sndE e (G.blk s H scope cl C' fp) h8).1) (fold_ok h1)
      exact snd_val G.gd rfl (hp.imp fun σ H Q hq => by rw [h4]; exact s_lcT (tg := tg) (iter := iter) (wi := tI C (sem O it).w) hq) rfl
    · cases h
  | .rng1 a, X, sc, e, G, h => by
    simp only [chkE] at h
    split at h
    · rename_i f ea p he
      rw [asCall_ok he]
      split at h
      · rename_i x q hx
        rw [asName_ok hx]
        simp only [Bool.and_eq_true, decide_eq_true_eq] at h
        obtain ⟨⟨⟨h1, h2⟩, h3⟩, h4⟩ := h
        subst h1
        exact ⟨pe_no fun _ _ => rfl, pt_no fun _ _ => rfl, fun tg => s_rng1 G.gd (by rw [G.sc]; exact h2) (sndE a G h4).1 h3⟩
      · cases h
    · cases h
  | .rng2 a b, X, sc, e, G, h => by
    simp only [chkE] at h
    split at h
    · rename_i f ea eb p he
      rw [asCall_ok he]
      split at h
      · rename_i x q hx
        rw [asName_ok hx]
        simp only [Bool.and_eq_true, decide_eq_true_eq] at h
        obtain ⟨⟨⟨⟨⟨h1, h2⟩, h3⟩, h5⟩, h4⟩, h6⟩ := h
        subst h1
        exact ⟨pe_no fun _ _ => rfl, pt_no fun _ _ => rfl, fun tg => s_rng2 G.gd (by rw [G.sc]; exact h2) (sndE a G h4).1 (sndE b G h6).1 h3 h5⟩
      · cases h
    · cases h
  | .fst ms, X, sc, e, G, h => by
    simp only [chkE] at h
    split at h
    · rename_i es p he
      rw [asJoined_ok he]
      rw [Bool.and_eq_true, decide_eq_true_eq] at h
      have hj := sndF ms G h.2
      match es, h.1, hj with
      | v1 :: v2 :: rest, _, hj => exact snd_val G.gd rfl (s_fst hj) rfl
    · cases h
  | .att o f, X, sc, e, G, h => by
    simp only [chkE] at h
    split at h
    · rename_i eo x p he
      rw [asAtt_ok he]
      simp only [Bool.and_eq_true, decide_eq_true_eq] at h
      exact snd_val G.gd rfl (s_att G.gd (sndE o G h.2).1 h.1.1 h.1.2) rfl
    · cases h
  | .mk c f ms, X, sc, e, G, h => by
    simp only [chkE] at h
    split at h
    · rename_i fe es p he
      rw [asCall_ok he]
      split at h
      · rename_i x q hx
        rw [asName_ok hx]
        simp only [Bool.and_eq_true, decide_eq_true_eq] at h
        obtain ⟨⟨⟨⟨⟨h1, h2⟩, h3⟩, h4⟩, h5⟩, h6⟩ := h
        have hs := sndL ms G h6
        cases hs with
        | nil => cases h4
        | cons a b => exact snd_val G.gd rfl (s_mk G.gd h1 h2 (by rw [G.sc]; exact h3) ((Snd.cons a b).pa h5) h5) rfl
      · cases h
    · cases h
  | .mkS c f o a, X, sc, e, G, h => by
    simp only [chkE] at h
    split at h
    · rename_i fe ea p he
      rw [asCall_ok he]
      split at h
      · rename_i z es q hx hs
        obtain ⟨x, q0⟩ := z
        rw [Bool.and_eq_true] at h
        have ho := (sndE o G h.1).1
        rw [asName_ok hx] at ho ⊢
        rw [asStar_ok hs]
        exact snd_val G.gd rfl (s_mkS G.gd ho (sndE a G h.2).1) rfl
      · cases h
    · cases h
  | .gcl c, X, sc, e, G, h => by
    simp only [chkE] at h
    split at h
    · rename_i x p he
      rw [asName_ok he]
      simp only [Bool.and_eq_true, decide_eq_true_eq] at h
      exact snd_val G.gd rfl (s_gcl G.gd h.1.1 h.1.2 (by rw [G.sc]; exact h.2)) rfl
    · cases h
  | .mk0 c f, X, sc, e, G, h => by
    simp only [chkE] at h
    split at h
    · rename_i fe p he
      rw [asCall_ok he]
      split at h
      · rename_i x q hx
        rw [asName_ok hx]
        simp only [Bool.and_eq_true, decide_eq_true_eq] at h
        exact snd_val G.gd rfl (s_mk0 G.gd h.1.1 h.1.2 (by rw [G.sc]; exact h.2)) rfl
      · cases h
    · cases h
  | .lno o f, X, sc, e, G, h => by
    simp only [chkE] at h
    split at h
    · rename_i fe ea p he
      rw [asCall_ok he]
      split at h
      · rename_i x q hx
        rw [asName_ok hx]
        simp only [Bool.and_eq_true, decide_eq_true_eq] at h
        obtain ⟨⟨⟨h1, h2⟩, h3⟩, h4⟩ := h
        subst h1
        exact snd_val G.gd rfl (s_lno (ok := fun c => O.okX 4 c f) G.gd (fun c hc => (G.gd.okY c f).1 hc) (sndE o G h4).1 (by rw [G.sc]; exact h2) h3) rfl
      · cases h
    · cases h
  | .isc a c, X, sc, e, G, h => by
    simp only [chkE] at h
    split at h
    · rename_i fe ea e2 p he
      rw [asCall_ok he]
      split at h
      · rename_i fx q x q2 hf hx
        rw [asName_ok hf, asName_ok hx]
        simp only [Bool.and_eq_true, decide_eq_true_eq] at h
        obtain ⟨⟨⟨⟨⟨⟨h1, h2⟩, h3⟩, h4⟩, h5⟩, h6⟩, h7⟩ := h
        subst h1
        exact snd_val G.gd rfl (s_isc G.gd (sndE a G h7).1 h3 h4 (by rw [G.sc]; exact h5) (by rw [G.sc]; exact h2) h6) rfl
      · cases h
    · cases h
  | .meth f o ms, X, sc, e, G, h => by
    simp only [chkE] at h
    split at h
    · rename_i fe es cpos he
      rw [asCall_ok he]
      split at h
      · rename_i eo m apos ha
        rw [asAtt_ok ha]
        simp only [Bool.and_eq_true, decide_eq_true_eq] at h
        obtain ⟨⟨⟨⟨⟨⟨h1, h2⟩, h3⟩, h4⟩, h5⟩, h6⟩, h7⟩ := h
        cases es with
        | nil =>
          cases ms with
          | nil => exact snd_val G.gd rfl (s_meth0 G.gd (sndE o G h6).1 h2 h1 h3) rfl
          | cons _ _ => cases h7
        | cons e1 es => exact snd_val G.gd rfl (s_meth G.gd (sndE o G h6).1 h2 h1 ((sndL ms G h7).pa h4) h4 h5 h3) rfl
      · cases h
    · cases h
  | .kmt f o ms a, X, sc, e, G, h => by
    simp only [chkE] at h
    split at h
    · rename_i fe es kn ea kp cpos he
      rw [asCall_ok he]
      split at h
      · rename_i eo m apos ha
        rw [asAtt_ok ha]
        simp only [Bool.and_eq_true, decide_eq_true_eq] at h
        obtain ⟨⟨⟨⟨⟨⟨⟨⟨⟨h1, h2⟩, h3⟩, h4⟩, h5⟩, h6⟩, h7⟩, h8⟩, h9⟩, h10⟩ := h
        cases es with
        | nil => cases h5
        | cons e1 es => exact snd_val G.gd rfl (s_kmt G.gd (sndE o G h8).1 h3 h1 h2 ((sndL ms G h9).pa h6) (sndE a G h10).1 h6 h7 h4) rfl
      · cases h
    · cases h
  | .eqo f a b, X, sc, e, G, h => by
    simp only [chkE] at h
    split at h
    · rename_i ea op' eb p he
      rw [asCmp_ok he]
      simp only [Bool.and_eq_true] at h
      have := of_decide_eq_true h.1.1.1
      subst this
      have ha := (sndE a G h.1.2).1
      have hb := (sndE b G h.2).1
      have hp := s_eqo (pos := p) (f := f) (ok := fun c => O.okX 5 c f) G.gd (fun c hc => (G.gd.okY c f).2 hc) ha hb h.1.1.2
      exact ⟨hp, s_eqoT (ok := fun c => O.okX 5 c f) G.gd (fun c hc => (G.gd.okY c f).2 hc) ha hb h.1.1.2, fun tg => s_it G.gd (sa := sem O (.eqo f a b)) hp⟩
    · cases h
  | .frz m, X, sc, e, G, h => by
    simp only [chkE, Bool.and_eq_true] at h
    exact snd_val G.gd rfl (s_frz (sndE m G h.2).1) h.1
  | .prp o f, X, sc, e, G, h => by
    simp only [chkE] at h
    split at h
    · rename_i eo x p he
      rw [asAtt_ok he]
      simp only [Bool.and_eq_true, decide_eq_true_eq] at h
      exact snd_val G.gd rfl (s_prp G.gd (sndE o G h.2).1 h.1.1 h.1.2) rfl
    · cases h
  | .cmt c f ms, X, sc, e, G, h => by
    simp only [chkE] at h
    split at h
    · rename_i fe es p he
      rw [asCall_ok he]
      split at h
      · rename_i eo m q hx
        rw [asAtt_ok hx]
        split at h
        · rename_i x q2 hx2
          rw [asName_ok hx2]
          simp only [Bool.and_eq_true, decide_eq_true_eq] at h
          obtain ⟨⟨⟨⟨⟨⟨⟨⟨h1, h2⟩, h3⟩, h4⟩, h5⟩, h6⟩, h7⟩, h8⟩, h9⟩ := h
          have hs := sndL ms G h9
          cases hs with
          | nil => cases h5
          | cons a b => exact snd_val G.gd rfl (s_cmt G.gd h1 h2 (by rw [G.sc]; exact h3) h4 ((Snd.cons a b).pa h6) h6 h7 h8) rfl
        · cases h
      · cases h
    · cases h
  | .sob o f, X, sc, e, G, h => by
    simp only [chkE] at h
    split at h
    · rename_i fe ea p he
      rw [asCall_ok he]
      split at h
      · rename_i x q hx
        rw [asName_ok hx]
        simp only [Bool.and_eq_true, decide_eq_true_eq] at h
        obtain ⟨⟨⟨h1, h2⟩, h3⟩, h4⟩ := h
        subst h1
        exact snd_val G.gd rfl (s_sob G.gd (sndE o G h4).1 (by rw [G.sc]; exact h2) h3) rfl
      · cases h
    · cases h
  | .lsc g it g2 it2 e, X, sc, e0, G, h => by
    simp only [chkE] at h
    split at h
    · rename_i fe ea p he
      rw [asCall_ok he]
      split at h
      · rename_i x q elt t0 u t1 v scope cp hx hs
        rw [asName_ok hx, asSC_ok hs]
        simp only [Bool.and_eq_true, decide_eq_true_eq] at h
        obtain ⟨⟨⟨⟨⟨⟨⟨⟨⟨⟨h1, h2⟩, h3⟩, h4⟩, h5⟩, h6⟩, h7⟩, h8⟩, h9⟩, hA⟩, hB⟩ := h
        subst h1
        have ok : BlkOk X.N X.env.scope scope (ownOf g t0 ++ ownOf g2 t1) := by rw [G.hN, G.sc]; exact blkOk_by h5
        refine snd_val G.gd rfl (s_lsc G.gd (by rw [G.hN]; exact G.nd) (by rw [G.sc]; exact h2) ((sndE it G h9).2.2 t0) ok h8
          (fun s H C' cl fp => s_tg (ok := ownB scope) (G.gd.blk s H scope _ fp) (by show X.N.Nodup; rw [G.hN]; exact G.nd) (fun x hx => own_ok G.sc hx) (by show tgB X.N _ _ _ = true; rw [G.hN]; exact h6))
          (fun s H C' cl fp => (sndE it2 (G.blk s H scope cl C' fp) hA).2.2 t1)
          (fun s H C' cl fp => s_tg (ok := ownB scope) (G.gd.blk s H scope _ fp) (by show X.N.Nodup; rw [G.hN]; exact G.nd) (fun x hx => own_ok G.sc hx) (by show tgB X.N _ _ _ = true; rw [G.hN]; exact h7))
          (fun s H C' cl fp => (sndE e (G.blk s H scope cl C' fp) hB).1) h3 h4) rfl
      · cases h
    · cases h
  | .enm _, _, _, _, _, h => by simp only [chkE] at h; cases h
  | .zip _ _, _, _, _, _, h => by simp only [chkE] at h; cases h
termination_by structural m => m
theorem sndF : ∀ (ms : List ME) {X : Cx} {sc : Scope} {es : List Expr}, Cg X C T O k N sc → chkF N T ms sc es = true → PJ X es ((sems O ms).map fun m => tF C m.v)
  | [], _, _, [], _, _ => .nil
  | m :: ms, X, sc, e :: es, G, h => by
    simp only [chkF, Bool.and_eq_true] at h
    obtain ⟨h1, h2⟩ := h
    refine .cons ?_ (sndF ms G h2)
    split at h1
    · rename_i x a b he
      rw [asConst_ok he]
      split at h1
      · rename_i z hz
        rw [cstOf_ok hz]
        exact s_fcst (of_decide_eq_true h1)
      · cases h1
    · split at h1
      · rename_i ea conv p he
        rw [Bool.and_eq_true, decide_eq_true_eq] at h1
        rw [asFmt_ok he, h1.1]
        exact s_fval (sndE m G h1.2).1
      · cases h1
  | [], _, _, _ :: _, _, h => by simp only [chkF] at h; cases h
  | _ :: _, _, _, [], _, h => by simp only [chkF] at h; cases h
termination_by structural ms => ms
theorem sndL : ∀ (ms : List ME) {X : Cx} {sc : Scope} {es : List Expr}, Cg X C T O k N sc → chkL N T ms sc es = true → Snd X C O ms es
  | [], _, _, [], _, _ => .nil
  | m :: ms, X, sc, e :: es, G, h => by
    simp only [chkL, Bool.and_eq_true] at h
    exact .cons (sndE m G h.1) (sndL ms G h.2)
  | [], _, _, _ :: _, _, h => by simp only [chkL] at h; cases h
  | _ :: _, _, _, [], _, h => by simp only [chkL] at h; cases h
termination_by structural ms => ms
theorem sndO : ∀ (m : Option ME) {X : Cx} {sc : Scope} {e : Option Expr}, Cg X C T O k N sc → chkO N T m sc e = true → PO X e (tO_ C (semo O m))
  | none, _, _, none, _, _ => s_on
  | some m, X, sc, some e, G, h => by
    simp only [chkO] at h
    exact s_os (sndE m G h).1
  | none, _, _, some _, _, h => by simp only [chkO] at h; cases h
  | some _, _, _, none, _, h => by simp only [chkO] at h; cases h
termination_by structural m => m
theorem sndK : ∀ (ms : List ME) {X : Cx} {sc : Scope} {es : List (Option Expr)}, Cg X C T O k N sc → chkK N T ms sc es = true → ∃ kes, es = kes.map some ∧ Snd X C O ms kes
  | [], _, _, [], _, _ => ⟨[], rfl, .nil⟩
  | m :: ms, X, sc, some e :: es, G, h => by
    simp only [chkK, Bool.and_eq_true] at h
    obtain ⟨kes, h1, h2⟩ := sndK ms G h.2
    exact ⟨e :: kes, by rw [h1]; rfl, .cons (sndE m G h.1) h2⟩
  | [], _, _, _ :: _, _, h => by simp only [chkK] at h; cases h
  | _ :: _, _, _, [], _, h => by simp only [chkK] at h; cases h
  | _ :: _, _, _, none :: _, _, h => by simp only [chkK] at h; cases h
termination_by structural ms => ms
end
end
end EV

set_option Elab.async false
set_option linter.all false
set_option maxRecDepth 100000
set_option maxHeartbeats 8000000
namespace EV
open PySem PySem.Spec PyProof.Rows L2
/-- a comprehension given to a name: how the model does it -/
def swB (sc : Scope) (v : Expr) (x : Str) (px : Pos) : Bool := notComp v || !localB sc x
def lcB (sc : Scope) (v : Expr) (x : Str) (px : Pos) : Bool := match asLC v with
  | some (_, _, scope, p) => localB sc x && px.line == p.line && !(scope.names.any fun (n, k) => n == x && (k == .local || k == .cell))
  | none => false
/-- x, y = a, b as the model does it: stored from the right -/
def parB (N : List Str) (sc : Scope) (is : List Nat) (ts vs : List Expr) : Bool := vs.all notStar && !(vs.all (foldedForSure 8)) && !(vs.all (constantsAlone 8)) &&
  (match is, ts, vs with
  | [i, j], [n1, n2], [_, _] => match asName n1, asName n2 with
    | some (x, px), some (y, py) => decide (N[i]? = some x) && decide (N[j]? = some y) && decide (i ≠ j) && localB sc x && localB sc y && px.line == py.line && !(x == y)
    | _, _ => false
  | [i, j, l], [n1, n2, n3], [_, _, _] => match asName n1, asName n2, asName n3 with
    | some (x, px), some (y, py), some (z, pz) => decide (N[i]? = some x) && decide (N[j]? = some y) && decide (N[l]? = some z) && decide (i ≠ j) && decide (i ≠ l) && decide (j ≠ l) && localB sc x && localB sc y && localB sc z &&
        py.line == px.line && pz.line == px.line && !(y == x) && !(z == x) && !(z == y)
    | _, _, _ => false
  | _, _, _ => false)
mutual
def chkS (N : List Str) (T : Tb) (sc : Scope) : MS → Stmt → Bool
  | .asg g m, s => match asAsg s with
    | some ([tg], v, _) => tgB N (locB sc) g tg && chkE N T m sc v && (match asName tg with
      | some (x, px) => swB sc v x px || (match m with | .lc .. => lcB sc v x px | _ => false)
      | none => match asTup tg with
        | some (ts, _, _) => notComp v && (notTup v || ts.any (badT sc))
        | none => false)
    | _ => false
  | .par is ms, s => match asAsg s with
    | some ([tg], v, _) => match asTup tg, asTup v with
      | some (ts, _, _), some (vs, _, _) => parB N sc is ts vs && chkL N T ms sc vs
      | _, _ => false
    | _ => false
  | .sset o i e, s => match asAsg s with
    | some ([tg], v, _) => match asSub tg with
      | some (eo, ei, _) => notComp v && plainIx ei && chkE N T o sc eo && chkE N T i sc ei && chkE N T e sc v
      | none => false
    | _ => false
  | .fset o f e, s => match asAsg s with
    | some ([tg], v, _) => match asAtt tg with
      | some (eo, x, _) => decide (T.fN f = x) && notComp v && chkE N T o sc eo && chkE N T e sc v
      | none => false
    | _ => false
  | .ast is j e, s => match asAsg s with
    | some ([tg], v, _) => match asTup tg with
      | some (ts, _, _) => match ts.getLast? with
        | some l => match asStar l with
          | some (nm, _) => notComp v && notTup v && tgB.go N (locB sc) is ts.dropLast && tgB.go N (locB sc) [j] [nm] && chkE N T e sc v
          | none => false
        | none => false
      | none => false
    | _ => false
  | .forE g a body, s => match asFor s with
    | some (tg, iter, sb, [], _) => match asTup tg, asCall iter with
      | some _, some (f, [ea], [], _) => match asName f with
        | some (x, _) => decide (x = "enumerate") && glB sc x && notStar ea && tgB N (locB sc) g tg && chkE N T a sc ea && chkSs N T sc body sb
        | none => false
      | _, _ => false
    | _ => false
  | .ex m, s => match asEx s with
    | some (v, _) => notComp v && chkE N T m sc v
    | none => false
  | .ret m, s => match asRet s with
    | some (some v, _) => chkE N T m sc v
    | _ => false
  | .ite c a b, s => match asSIf s with
    | some (ec, sa, sb, _) => chkE N T c sc ec && chkSs N T sc a sa && chkSs N T sc b sb
    | none => false
  | .forS g it body, s => match asFor s with
    | some (tg, iter, sb, [], _) => notSet iter && tgB N (locB sc) g tg && chkE N T it sc iter && chkSs N T sc body sb
    | _ => false
  | .whl c body, s => match asWhl s with
    | some (ec, sb, [], _) => chkE N T c sc ec && chkSs N T sc body sb
    | _ => false
  | .pas, s => (asPass s).isSome
  | .brk, s => (asBrk s).isSome
  | .cnt, s => (asCnt s).isSome
  | .nev, _ => true
termination_by structural m => m
def chkSs (N : List Str) (T : Tb) (sc : Scope) : List MS → List Stmt → Bool
  | [], [] => true
  | m :: ms, s :: ss => chkS N T sc m s && chkSs N T sc ms ss
  | _, _ => false
termination_by structural m => m
end
theorem drop_last_ok {α : Type} : ∀ {ts : List α} {l : α}, ts.getLast? = some l → ts = ts.dropLast ++ [l]
  | [], _, h => by cases h
  | [a], l, h => by cases h; rfl
  | a :: b :: r, l, h => by
    have h' : (b :: r).getLast? = some l := h
    have := drop_last_ok h'
    show a :: b :: r = a :: ((b :: r).dropLast ++ [l])
    rw [← this]
section
variable {C : Cn} {T : Tb} {O : Orc} {k : Nat} {N : List Str} {X : Cx} {sc : Scope}
theorem swB_ok {v : Expr} {x : Str} {px : Pos} {l : Nat} {env : Env} (h : swB env.scope v x px = true) : swapsWithSole [.Name x px] v l env = pure false := by
  unfold swB at h
  rw [Bool.or_eq_true] at h
  rcases h with h | h
  · exact sole_ok h
  · have hn : ¬ env.kindOf x = some .local := fun z => by
      have : localB env.scope x = true := decide_eq_true z
      rw [this] at h
      cases h
    have hb : (env.kindOf x == some .local) = false := by rw [beq_eq_false_iff_ne]; exact hn
    unfold swapsWithSole
    cases v <;> first | rfl | skip
    all_goals
      unfold swapsWith
      simp [hb]
theorem s_setLc {i : Nat} {y : Str} {py pos : Pos} {v : Expr} {fz : Bool} {g : MG} {it e : ME} {ifs : List ME} (G : Cg X C T O k N sc) (hfn : ∀ x, X.fn x = true) (hk : X.env.scope.kind = .function) (hi : N[i]? = some y) (h0 : chkE N T (.lc fz g it ifs e) sc v = true) (hl : lcB sc v y py = true) :
    PS X (.Assign [.Name y py] v pos) (tS C (exec O (.asg (.nm i) (.lc fz g it ifs e)))) := by
  simp only [chkE] at h0
  split at h0
  · rename_i elt tg iter eifs scope p he
    unfold lcB at hl
    rw [he] at hl
    rw [asLC_ok he]
    simp only [Bool.and_eq_true, decide_eq_true_eq] at h0 hl
    obtain ⟨⟨⟨⟨⟨⟨⟨h1, h2⟩, h3⟩, h4⟩, h5⟩, h6⟩, h7⟩, h8⟩ := h0
    obtain ⟨⟨l1, l2⟩, l3⟩ := hl
    have l1 : X.env.scope.names.lookup y = some .local := by rw [G.sc]; exact of_decide_eq_true l1
    have ok : BlkOk X.N X.env.scope scope (ownOf g tg) := by rw [G.hN, G.sc]; exact blkOk_by h2
    have hsw := sw_true (elt := elt) (gs := [⟨tg, iter, eifs, 0⟩]) (scope := scope) (pos := p) (py := py) (y := y) (l := pos.line) (env := X.env) hk l1 l2 (by simpa using l3)
    refine (ps_setLc (spos := pos) G.gd.calm (by rw [G.hN]; exact G.nd) (by rw [G.hN]; exact hi) l1 hsw ((sndE it G h6).2.2 tg) ok
        (fun s H C' cl fp => s_tg (ok := ownB scope) (G.gd.blk s H scope _ fp) (by show X.N.Nodup; rw [G.hN]; exact G.nd) (fun x hx => own_ok G.sc hx) (by show tgB X.N _ _ _ = true; rw [G.hN]; exact h3))
        (fun s H C' cl fp => (sndL ifs (G.blk s H scope cl C' fp) h7).pts h5)
        (fun s H C' cl fp => (sndE e (G.blk s H scope cl C' fp) h8).1) (fold_ok h1)).imp fun Dn σ H ⟨ρ, en, h, fl, en', h', sr, hr, e0, q⟩ => ?_
    change (match comp fz g (sem O it) (sems O ifs) (sem O e) en h with
      | some (x, h1) => some (Fl.nx, en.set i (some x), h1)
      | none => none) = some (fl, en', h') at e0
    split at e0
    · rename_i x h9 hx
      cases e0
      show tLc _ _ _ _ _ σ H _
      rw [h4]
      exact s_lcT (tg := tg) (iter := iter) (wi := tI C (sem O it).w) ⟨ρ, en, h, x, _, sr, hr, hx, fun ρ1 H1 v x1 hr1 rv => q ρ1 H1 x1 hr1 _ ((sr.mono x1).put rv)⟩
    · cases e0
  · cases h0
mutual
theorem sndS (G : Cg X C T O k N sc) (hfn : ∀ x, X.fn x = true) (hk : X.env.scope.kind = .function) : ∀ (m : MS) {s : Stmt}, chkS N T sc m s = true → PS X s (tS C (exec O m))
  | .asg g m, s, h => by
    simp only [chkS] at h
    split at h
    · rename_i tg v p he
      rw [asAsg_ok he]
      simp only [Bool.and_eq_true] at h
      obtain ⟨⟨h1, h2⟩, h3⟩ := h
      have hg : PG X tg (tG C g) := s_tg (ok := locB sc) G.gd (by rw [G.hN]; exact G.nd) (fun x hx => ⟨by rw [G.sc]; exact loc_of hx, .inl (hfn x)⟩) (by rw [G.hN]; exact h1)
      split at h3
      · rename_i x px hx
        rw [Bool.or_eq_true] at h3
        rcases h3 with h3 | h3
        · rw [asName_ok hx] at hg ⊢
          exact s_asg (sndE m G h2).1 hg (swB_ok (by rw [G.sc]; exact h3)) rfl rfl
        · cases m <;> first | (cases h3; done) | skip
          rw [asName_ok hx] at h1 ⊢
          cases g with
          | nm i =>
            have h1 : (decide (N[i]? = some x) && locB sc x) = true := h1
            rw [Bool.and_eq_true, decide_eq_true_eq] at h1
            exact s_setLc G hfn hk h1.1 h2 h3
          | tp is => cases h1
      · split at h3
        · rename_i ts a b ht
          rw [Bool.and_eq_true] at h3
          rw [asTup_ok ht] at hg ⊢
          refine s_asg (sndE m G h2).1 hg (sole_ok h3.1) ?_ rfl
          have h4 := h3.2
          rw [Bool.or_eq_true] at h4
          rcases h4 with h4 | h4
          · exact stores_tup h4
          · cases hv : asTup v with
            | none => exact stores_tup (by cases v <;> first | rfl | cases hv)
            | some r =>
              obtain ⟨vs, a', b'⟩ := r
              rw [asTup_ok hv]
              exact sw0 (by rw [G.sc]; exact h4)
        · cases h3
    · cases h
  | .par is ms, s, h => by
    simp only [chkS] at h
    split at h
    · rename_i tg v p he
      rw [asAsg_ok he]
      split at h
      · rename_i ts a b vs c d ht hv
        rw [asTup_ok ht, asTup_ok hv]
        rw [Bool.and_eq_true] at h
        obtain ⟨h1, h2⟩ := h
        unfold parB at h1
        simp only [Bool.and_eq_true] at h1
        obtain ⟨⟨⟨a1, a2⟩, a3⟩, h1⟩ := h1
        have hs := (sndL ms G h2).pa a1
        split at h1
        · rename_i i j n1 n2 e1 e2
          split at h1
          · rename_i x px y py hx hy
            rw [asName_ok hx, asName_ok hy]
            simp only [Bool.and_eq_true, decide_eq_true_eq] at h1
            obtain ⟨⟨⟨⟨⟨⟨b1, b2⟩, b3⟩, b4⟩, b5⟩, b6⟩, b7⟩ := h1
            exact s_par2 G.gd (by rw [G.hN]; exact G.nd) (by rw [G.hN]; exact b1) (by rw [G.hN]; exact b2) b3 hk (by rw [G.sc]; exact b4) (by rw [G.sc]; exact b5) b6 (by simpa using b7) a1 ((Bool.not_eq_true' _).mp a2) ((Bool.not_eq_true' _).mp a3) hs
          · cases h1
        · rename_i i j l n1 n2 n3 e1 e2 e3
          split at h1
          · rename_i x px y py z pz hx hy hz
            rw [asName_ok hx, asName_ok hy, asName_ok hz]
            simp only [Bool.and_eq_true, decide_eq_true_eq] at h1
            obtain ⟨⟨⟨⟨⟨⟨⟨⟨⟨⟨⟨⟨⟨b1, b2⟩, b3⟩, b4⟩, b5⟩, b6⟩, b7⟩, b8⟩, b9⟩, c1⟩, c2⟩, c3⟩, c4⟩, c5⟩ := h1
            exact s_par3 G.gd (by rw [G.hN]; exact G.nd) (by rw [G.hN]; exact b1) (by rw [G.hN]; exact b2) (by rw [G.hN]; exact b3) b4 b5 b6 hk (by rw [G.sc]; exact b7) (by rw [G.sc]; exact b8) (by rw [G.sc]; exact b9) c1 c2 (by simpa using c3) (by simpa using c4) (by simpa using c5) a1 ((Bool.not_eq_true' _).mp a2) ((Bool.not_eq_true' _).mp a3) hs
          · cases h1
        · cases h1
      · cases h
    · cases h
  | .sset o i e, s, h => by
    simp only [chkS] at h
    split at h
    · rename_i tg v p he
      rw [asAsg_ok he]
      split at h
      · rename_i eo ei p2 hs
        rw [asSub_ok hs]
        simp only [Bool.and_eq_true] at h
        obtain ⟨⟨⟨⟨h1, h2⟩, h3⟩, h4⟩, h5⟩ := h
        exact s_sset (sndE o G h3).1 (sndE i G h4).1 (sndE e G h5).1 h1 h2
      · cases h
    · cases h
  | .ex m, s, h => by
    simp only [chkS] at h
    split at h
    · rename_i v p he
      rw [asEx_ok he]
      rw [Bool.and_eq_true] at h
      exact s_ex (sndE m G h.2).1 h.1
    · cases h
  | .ret m, s, h => by
    simp only [chkS] at h
    split at h
    · rename_i v p he
      rw [asRet_ok he]
      exact s_ret (sndE m G h).1
    · cases h
  | .ite c a b, s, h => by
    simp only [chkS] at h
    split at h
    · rename_i ec sa sb p he
      rw [asSIf_ok he]
      simp only [Bool.and_eq_true] at h
      exact s_if (sndE c G h.1.1).2.1 (sndSs G hfn hk a h.1.2) (sndSs G hfn hk b h.2)
    · cases h
  | .forS g it body, s, h => by
    simp only [chkS] at h
    split at h
    · rename_i tg iter sb p he
      rw [asFor_ok he]
      simp only [Bool.and_eq_true] at h
      obtain ⟨⟨⟨h1, h2⟩, h3⟩, h4⟩ := h
      have hg : PG X tg (tG C g) := s_tg (ok := locB sc) G.gd (by rw [G.hN]; exact G.nd) (fun x hx => ⟨by rw [G.sc]; exact loc_of hx, .inl (hfn x)⟩) (by rw [G.hN]; exact h2)
      exact s_for G.gd ((sndE it G h3).2.2 tg) hg (sndSs G hfn hk body h4) h1
    · cases h
  | .whl c body, s, h => by
    simp only [chkS] at h
    split at h
    · rename_i ec sb p he
      rw [asWhl_ok he]
      simp only [Bool.and_eq_true] at h
      exact s_whl G.gd (sndE c G h.1).2.1 (sndSs G hfn hk body h.2)
    · cases h
  | .pas, s, h => by
    simp only [chkS] at h
    obtain ⟨p, hp⟩ := Option.isSome_iff_exists.mp h
    rw [asPass_ok hp]
    exact s_pas
  | .brk, s, h => by
    simp only [chkS] at h
    obtain ⟨p, hp⟩ := Option.isSome_iff_exists.mp h
    rw [asBrk_ok hp]
    exact s_brk
  | .cnt, s, h => by
    simp only [chkS] at h
    obtain ⟨p, hp⟩ := Option.isSome_iff_exists.mp h
    rw [asCnt_ok hp]
    exact s_cnt
  | .nev, s, h => s_nev
  | .fset o f e, s, h => by
    simp only [chkS] at h
    split at h
    · rename_i tg v p he
      rw [asAsg_ok he]
      split at h
      · rename_i eo x p2 ht
        rw [asAtt_ok ht]
        simp only [Bool.and_eq_true, decide_eq_true_eq] at h
        exact s_fset G.gd (sndE o G h.1.2).1 (sndE e G h.2).1 h.1.1.1 h.1.1.2
      · cases h
    · cases h
  | .ast is j e, s, h => by
    simp only [chkS] at h
    split at h
    · rename_i tg v p he
      rw [asAsg_ok he]
      split at h
      · rename_i ts a b ht
        rw [asTup_ok ht]
        split at h
        · rename_i l hl
          split at h
          · rename_i nm sp hs
            simp only [Bool.and_eq_true] at h
            obtain ⟨⟨⟨⟨h1, h2⟩, h3⟩, h4⟩, h5⟩ := h
            have hok : ∀ x, locB sc x = true → Loc X.env.scope x ∧ (X.fn x = true ∨ X.env.scope.names.lookup x = some .local) := fun x hx => ⟨by rw [G.sc]; exact loc_of hx, .inl (hfn x)⟩
            have n1 : NmS X ts.dropLast is := tgB_go hok (by rw [G.hN]; exact h3)
            have n2 : NmS X [nm] [j] := tgB_go hok (by rw [G.hN]; exact h4)
            have e1 : ts = ts.dropLast ++ [l] := drop_last_ok hl
            rw [e1, asStar_ok hs]
            cases n2 with
            | cons hh _ => exact s_ast G.gd (by rw [G.hN]; exact G.nd) n1 (.cons hh .nil) (sndE e G h5).1 h1 h2
          · cases h
        · cases h
      · cases h
    · cases h
  | .forE g a body, s, h => by
    simp only [chkS] at h
    split at h
    · rename_i tg iter sb p he
      rw [asFor_ok he]
      split at h
      · rename_i z f ea p2 ht hi
        obtain ⟨ts, kk, tp⟩ := z
        split at h
        · rename_i x q hx
          simp only [Bool.and_eq_true, decide_eq_true_eq] at h
          obtain ⟨⟨⟨⟨⟨h1, h2⟩, h3⟩, h4⟩, h5⟩, h6⟩ := h
          subst h1
          have hg : PG X tg (tG C g) := s_tg (ok := locB sc) G.gd (by rw [G.hN]; exact G.nd) (fun x hx => ⟨by rw [G.sc]; exact loc_of hx, .inl (hfn x)⟩) (by rw [G.hN]; exact h4)
          rw [asCall_ok hi, asName_ok hx]
          rw [asTup_ok ht] at hg ⊢
          exact s_for (m := .enm a) G.gd (s_enm G.gd (by rw [G.sc]; exact h2) (sndE a G h5).1 h3) hg (sndSs G hfn hk body h6) rfl
        · cases h
      · cases h
    · cases h
termination_by structural m => m
theorem sndSs (G : Cg X C T O k N sc) (hfn : ∀ x, X.fn x = true) (hk : X.env.scope.kind = .function) : ∀ (ms : List MS) {ss : List Stmt}, chkSs N T sc ms ss = true → PSs X ss (tS C (execs O ms))
  | [], [], _ => s_nilS
  | m :: ms, s :: ss, h => by
    simp only [chkSs, Bool.and_eq_true] at h
    exact s_consS (sndS G hfn hk m h.1) (sndSs G hfn hk ms h.2)
  | [], _ :: _, h => by simp only [chkSs] at h; cases h
  | _ :: _, [], h => by simp only [chkSs] at h; cases h
termination_by structural ms => ms
end
end
end EV

set_option Elab.async false
set_option linter.all false
set_option maxRecDepth 100000
set_option maxHeartbeats 8000000
namespace EV
open PySem PySem.Spec PyProof.Rows L2
theorem gd_deeper {A : Around} {env : Env} (h : A.guards = some []) : (A.deeper env).guards = some [] := h
theorem Rm.deeper {k : Nat} {A : Around} (r : Rm (k + 1) A) (env : Env) : Rs k (A.deeper env) :=
  ⟨r.room.hd, by have := r.room.dp; show A.depth + 1 + 3 * k + 7 < _; omega, by have := r.room.un; show A.units + 3 + 16 * k + 205 < _; omega, r.gd⟩
/-- a def of the text, by its body, where no repr is under way -/
theorem fnG_of {P : Program} {w : World} {K : PySem.W.Frag} {mg : Str → Option Value} {base : Heap} {k : Nat} {f : Addr} {fd : FuncData} {x qual : Str} {params : Arguments} {body : List Stmt} {scope : Scope} {N ps : List Str} {sp : Sp}
    (F : FunD K x qual params body scope [] [] f fd) (S : FnScope N ps scope) (len : ∀ vs H Q E, sp vs H Q E → vs.length = ps.length) (hb : Binds K fd ps [])
    (hbody : ∀ (cdv : Value) (A : Around) (outer : List Env) (s : Shared) (H : Hp) (vs : List V) (Q : VK) (E : XK), Rs k (A.deeper (envOfC qual scope s.heap.objs.size f cdv)) → sp vs H Q E →
      ∃ t, PSs (cxOf CX0 P w K mg base N qual scope f cdv A outer s H E).nox body t ∧ t { nx := fun _ H' => Q .non H', rt := Q } (start N vs) H) : FnG P w K mg base (k + 1) f sp := by
  intro A outer s H us vs Q E hr e0 rv hsp
  obtain ⟨oc, od, dV, kV, doc, pm, an, cdv, ct, osl, rfl, lk, hcd, _, _⟩ := F.ex
  have KX : K.In s.heap := e0.mod.kin.keeps fun b o e => (e0.bs b o e).1
  have hl : vs.length = ps.length := len _ _ _ _ hsp
  have hlu : (us ++ []).length = ps.length := by rw [List.append_nil, ← rv.length]; exact hl
  have bd := hb s us KX hlu
  rw [List.append_nil] at bd
  refine codeAny_call_function hr.room.depth (KX _ _ lk) rfl S.co S.gen rfl (PySem.W.codeRec_of KX hcd) (bd _ _ _ _ ?_)
  refine wpAny_newFunctionEnv_cells S.kind (fun ⟨n, v⟩ hy => (S.par n (List.of_mem_zip hy).1).elim .inl fun q => .inr ⟨q, PySem.W.cellsFrom_some _ _ _ (.inl q)⟩) fun env he s1 z => ?_
  subst he
  refine ⟨(e0.mod.nolimit.keeps fun b o e => (e0.bs b o e).1).keeps z.toInCall.keep, codeAny_func ?_⟩
  obtain ⟨t, ht, hq⟩ := hbody cdv A outer s H vs Q E (hr.deeper _) hsp
  have run := ht.nox.run [] s1 (start N vs) H _ (inv_start S hr.room.hd e0 hl rv z) hq
  refine wpAny_mono run (fun fl s' hs => ?_) fun e s' hs => hs
  cases fl with
  | ret u =>
    obtain ⟨v, σ', H', J, r1, q⟩ := hs
    exact ⟨v, H', J.os, J.bare, J.base, J.hok, r1, q⟩
  | next =>
    obtain ⟨σ', H', J, q⟩ := hs
    exact ⟨.non, H', J.os, J.bare, J.base, J.hok, rfl, q⟩
  | brk => obtain ⟨_, _, _, q⟩ := hs; exact q.elim
  | cont => obtain ⟨_, _, _, q⟩ := hs; exact q.elim
/-- the same, the binding told -/
theorem fnG_core {P : Program} {w : World} {K : PySem.W.Frag} {mg : Str → Option Value} {base : Heap} {k : Nat} {f : Addr} {fd : FuncData} {x qual : Str} {params : Arguments} {body : List Stmt} {scope : Scope} {N ps : List Str} {sp : Sp}
    (F : FunD K x qual params body scope [] [] f fd) (S : FnScope N ps scope)
    (hbody : ∀ (cdv : Value) (A : Around) (outer : List Env) (s : Shared) (H : Hp) (vs : List V) (Q : VK) (E : XK), Rs k (A.deeper (envOfC qual scope s.heap.objs.size f cdv)) → sp vs H Q E →
      ∃ t, PSs (cxOf CX0 P w K mg base N qual scope f cdv A outer s H E).nox body t ∧ t { nx := fun _ H' => Q .non H', rt := Q } (start N vs) H)
    (A : Around) (outer : List Env) (s : Shared) (H : Hp) (us : List Value) (vs : List V) (args : Args) (Q : VK) (E : XK) (hr : Rm (k + 1) A) (e0 : Env0 P w K mg base A outer s H) (rv : Vals vs us) (hl : vs.length = ps.length)
    (bd : K.In s.heap → BindsTo s fd args (ps.zip us)) (hsp : sp vs H Q E) : codeAny (model P w) A (.call (.ref f) args) (CR CX0 outer P w H s Q E) s := by
  obtain ⟨oc, od, dV, kV, doc, pm, an, cdv, ct, osl, rfl, lk, hcd, _, _⟩ := F.ex
  have KX : K.In s.heap := e0.mod.kin.keeps fun b o e => (e0.bs b o e).1
  refine codeAny_call_function hr.room.depth (KX _ _ lk) rfl S.co S.gen rfl (PySem.W.codeRec_of KX hcd) (bd KX _ _ _ _ ?_)
  refine wpAny_newFunctionEnv_cells S.kind (fun ⟨n, v⟩ hy => (S.par n (List.of_mem_zip hy).1).elim .inl fun q => .inr ⟨q, PySem.W.cellsFrom_some _ _ _ (.inl q)⟩) fun env he s1 z => ?_
  subst he
  refine ⟨(e0.mod.nolimit.keeps fun b o e => (e0.bs b o e).1).keeps z.toInCall.keep, codeAny_func ?_⟩
  obtain ⟨t, ht, hq⟩ := hbody cdv A outer s H vs Q E (hr.deeper _) hsp
  have run := ht.nox.run [] s1 (start N vs) H _ (inv_start S hr.room.hd e0 hl rv z) hq
  refine wpAny_mono run (fun fl s' hs => ?_) fun e s' hs => hs
  cases fl with
  | ret u =>
    obtain ⟨v, σ', H', J, r1, q⟩ := hs
    exact ⟨v, H', J.os, J.bare, J.base, J.hok, r1, q⟩
  | next =>
    obtain ⟨σ', H', J, q⟩ := hs
    exact ⟨.non, H', J.os, J.bare, J.base, J.hok, rfl, q⟩
  | brk => obtain ⟨_, _, _, q⟩ := hs; exact q.elim
  | cont => obtain ⟨_, _, _, q⟩ := hs; exact q.elim
/-- the same of a def whose last parameter takes what is left over -/
theorem fnG_star {P : Program} {w : World} {K : PySem.W.Frag} {mg : Str → Option Value} {base : Heap} {k : Nat} {f : Addr} {fd : FuncData} {x qual pv : Str} {params : Arguments} {body : List Stmt} {scope : Scope} {N ps : List Str} {sp : Sp}
    (F : FunD K x qual params body scope [] [] f fd) (S : FnScope N (ps ++ [pv]) scope)
    (hb : ∀ us rest : List Value, us.length = ps.length → bindArgs fd ⟨us ++ rest, []⟩ = (newTuple rest >>= fun t => pure (ps.zip us ++ [(pv, t)])))
    (hbody : ∀ (cdv : Value) (A : Around) (outer : List Env) (s : Shared) (H : Hp) (vs : List V) (Q : VK) (E : XK), Rs k (A.deeper (envOfC qual scope s.heap.objs.size f cdv)) → sp vs H Q E →
      ∃ t, PSs (cxOf CX0 P w K mg base N qual scope f cdv A outer s H E).nox body t ∧ t { nx := fun _ H' => Q .non H', rt := Q } (start N vs) H) :
    FnG P w K mg base (k + 1) f (fun vs H Q E => ∃ ws rest, vs = ws ++ rest ∧ ws.length = ps.length ∧ rest.length ≤ sizeLine ∧ ∀ p, H p = none → sp (ws ++ [.ref p]) (upd H p (.tup rest)) Q E) := by
  intro A outer s H us vs Q E hr e0 r hsp
  obtain ⟨ws, rest, ev, hl, hz, hq⟩ := hsp
  subst ev
  obtain ⟨oc, od, dV, kV, doc, pm, an, cdv, ct, osl, rfl, lk, hcd, _, _⟩ := F.ex
  obtain ⟨u1, u2, eu, r1, r2⟩ := StX.vals_split r
  subst eu
  have hn : H s.heap.objs.size = Option.none := e0.hok.fresh (Nat.le_refl _)
  have hl1 : u1.length = ps.length := by rw [← r1.length]; exact hl
  have hl2 : u2.length ≤ sizeLine := by rw [← r2.length]; exact hz
  refine StX.run_bnd (CX := CX0) lk hcd S hr.room e0 (G := fun xs H2 => ∃ p, H p = Option.none ∧ xs = ws ++ [V.ref p] ∧ H2 = upd H p (.tup rest)) (fun A' Ex Q' h => ?_) fun s2 H2 xs ⟨p, hp, ex, eH⟩ _ => ?_
  · rw [hb u1 u2 hl1]
    refine wpAny_bind (wpAny_newTuple (wpAny_pure ?_) hl2)
    have new : ObjOk P w (upd H s.heap.objs.size (.tup rest)) (s.heap.push ({ cls := .type "tuple", data := .seq u2.toArray } : Obj)) s.heap.objs.size (.tup rest) := ⟨hz, u2, r2, ⟨_, Heap.get?_push_size _ rfl, rfl, _, rfl⟩⟩
    have un := StX.un_laid (fs := frs outer) (s := s) (o := ({ cls := .type "tuple", data := .seq u2.toArray } : Obj)) (u := .tup rest) hn
    have z := h _ _ (ws ++ [V.ref s.heap.objs.size]) (u1 ++ [Value.ref s.heap.objs.size]) (StX.env0_laid e0 new) un rfl (fun e s' z => z) (r1.append (.cons rfl .nil))
      (by rw [List.length_append, List.length_append, hl] <;> rfl) ⟨_, hn, rfl, rfl⟩
    rw [List.zip_append hl1.symm] at z
    exact z
  · subst ex eH
    obtain ⟨t, ht, q⟩ := hbody cdv A outer s2 _ _ Q E (hr.deeper _) (hq p hp)
    exact ⟨t, ht.nox, q⟩
/-- the law's def is called with the script: the script is tracked, or one of the module's own lists -/
theorem lawG_call {P : Program} {w : World} {K : PySem.W.Frag} {mg mb : Str → Option Value} {k : Nat} {fa a : Addr} {sp : Sp} {s₁ : Shared} {vs : List Value} {ns : List Int}
    (KX : K.In s₁.heap) (hns : s₁.heap.Ns mainGlobals mg) (hb : s₁.heap.Ns builtinsNs mb) (hbb : ∀ x : Str, x ≠ "__name__" → mb x = bootBuiltins x) (hlim : s₁.heap.NoLimit) (hg : s₁.gens = #[])
    (ha : s₁.heap.get? a = some { cls := .type "list", data := .seq vs.toArray }) (hi : IntsAre vs ns) (hl : ns.length ≤ sizeLine) (hr : Rm k callerA)
    (F : ∀ base : Heap, K.In base → base.Ns mainGlobals mg → FnG P w K mg base k fa sp)
    (hsp : ∀ H : Hp, ((∃ o, H a = some (.frz o (.lst (ns.map V.int)))) ∨ ∃ o its n, K.lookup a = some o ∧ o.cls = .type "list" ∧ o.dict = none ∧ o.data = .seq its n ∧ its.size ≤ sizeLine ∧ Vals (ns.map V.int) its.toList) → sp [.ref a] H (fun v _ => v = .bl true) fun _ _ _ => False) :
    codeAny (model P w) callerA (.call (.ref fa) ⟨[.ref a], []⟩) (fun r s' => r = .ok (.ret (.bool true)) ∧ OldK s₁.heap s'.heap ∧ s'.os = s₁.os ∧ AllBare s'.gens) s₁ := by
  have rv := vals_ints hi
  have lenV := hi.length
  -- what is tracked: the script alone, unless the module holds it
  let T : Bool := (K.lookup a).isNone
  let H : Hp := fun b => if T && decide (b = a) then some (.frz { cls := .type "list", data := .seq vs.toArray } (.lst (ns.map V.int))) else none
  have Hsome : ∀ {b : Addr} {u : HO}, H b = some u → b = a ∧ T = true ∧ u = .frz { cls := .type "list", data := .seq vs.toArray } (.lst (ns.map V.int)) := fun {b u} e => by
    have e : (if T && decide (b = a) then some (HO.frz { cls := .type "list", data := .seq vs.toArray } (.lst (ns.map V.int))) else none) = some u := e
    split at e
    · rename_i c
      rw [Bool.and_eq_true, decide_eq_true_eq] at c
      exact ⟨c.2, c.1, (Option.some.inj e).symm⟩
    · cases e
  have hok : HOk P w H s₁.heap := fun b u e => by
    obtain ⟨rfl, _, rfl⟩ := Hsome e
    exact ⟨ha, by rw [List.length_map]; exact hl, vs, _, rv, ha⟩
  have noD : ∀ {b : Addr} {o : Obj} {es : Array DictEntry} {ep : Nat}, s₁.heap.get? b = some o → o.data = .dict es ep → H b = none := fun {b o es ep} e d => by
    cases q : H b with
    | none => rfl
    | some u =>
      obtain ⟨rfl, _, _⟩ := Hsome q
      rw [ha] at e
      cases e
      cases d
  have nsK : ∀ {b : Addr} {m : Str → Option Value}, s₁.heap.Ns b m → (hidT s₁.heap H).Ns b m := fun {b m} ⟨o, es, ep, e, d, r⟩ => ⟨o, es, ep, hidT_get e (noD e d), d, r⟩
  have hKb : K.In (hidT s₁.heap H) := fun b o e => hidT_get (KX b o e) (by
    cases q : H b with
    | none => rfl
    | some u =>
      obtain ⟨rfl, t, _⟩ := Hsome q
      have t : (K.lookup b).isNone = true := t
      rw [e] at t
      cases t)
  have hM : Mod K mg (hidT s₁.heap H) := ⟨hKb, nsK hns, ⟨mb, nsK hb, hbb⟩, let ⟨mc, h1, h2⟩ := hlim; ⟨mc, nsK h1, h2⟩⟩
  have e0 : Env0 P w K mg (hidT s₁.heap H) callerA [] s₁ H := ⟨rfl, hM, fun b o e => of_hidT e, Nat.le_of_eq (hidT_size _ _), trivial, fun b hb => absurd (show b ∈ ([] : List Addr) from hb) List.not_mem_nil, hok, .of_eq hg⟩
  have hq : sp [.ref a] H (fun v _ => v = .bl true) fun _ _ _ => False := hsp H (by
    cases hk : K.lookup a with
    | none => exact .inl ⟨_, if_pos (by show ((K.lookup a).isNone && decide (a = a)) = true; rw [hk]; simp)⟩
    | some o =>
      have e := KX a o hk
      rw [ha] at e
      cases e
      exact .inr ⟨_, vs.toArray, _, rfl, rfl, rfl, rfl, by rw [List.size_toArray, lenV]; exact hl, by simpa using rv⟩)
  refine codeAny_mono (F _ hKb (nsK hns) callerA [] s₁ H [.ref a] [.ref a] _ _ hr e0 (.cons rfl .nil) hq) fun r s' h => ?_
  cases r with
  | error e => exact h.elim
  | ok fl =>
    cases fl with
    | next => exact h.elim
    | brk => exact h.elim
    | cont => exact h.elim
    | ret u =>
      obtain ⟨v, H', os, bare, un, hok', r', q⟩ := h
      cases (show v = .bl true from q)
      cases (show u = Value.bool true from r')
      refine ⟨rfl, OldK.of_keep fun b o e => ?_, os, bare⟩
      cases q : H b with
      | none => exact un.keep b o e q (by intro z; exact absurd (show b ∈ ([] : List Addr) from z) List.not_mem_nil) (by simp)
      | some u =>
        obtain ⟨_, _, rfl⟩ := Hsome q
        obtain ⟨e1, _⟩ := hok b _ q
        obtain ⟨e2, _⟩ := hok' b _ (un.frzs b _ _ q)
        rw [e] at e1
        cases e1
        exact e2
/-- the goal that a head leaves, from the law's promise -/
theorem lawG_walk {l : PySem.W.OpenLaw} {n k : Nat} {q : Program} {loose : List Str} {XP : (Str → Option Value) → Heap → Prop} {YP : World → Heap → Prop} {d : DefRec}
    (hn : l.most = some n) (hn2 : n ≤ sizeLine) (hdf : d.params.defaults = []) (hr : Rm k callerA)
    (F : ∀ (w : World) (mg : Str → Option Value) (fa : Addr) (h : Heap), YP w h → h.Ns mainGlobals mg → mg d.name = some (.ref fa) →
      ∃ (K : PySem.W.Frag) (sp : Sp), K.In h ∧
        (∀ (H : Hp) (a : Addr) (ns : List Int), ns.length ≤ n → ((∃ o, H a = some (.frz o (.lst (ns.map V.int)))) ∨ ∃ o its n, K.lookup a = some o ∧ o.cls = .type "list" ∧ o.dict = none ∧ o.data = .seq its n ∧ its.size ≤ sizeLine ∧ Vals (ns.map V.int) its.toList) → sp [.ref a] H (fun v _ => v = .bl true) fun _ _ _ => False) ∧
        ∀ base : Heap, K.In base → base.Ns mainGlobals mg → FnG l.prog w K mg base k fa sp) :
    PySem.W.WalkO q loose XP YP l.row.toRowW d [] (fun f vs => PySem.call f vs) := by
  refine Att.attach_call hn hdf fun w s₀ s₁ mg mb fa o pm cd doc a vs ns G Y ho hd hcd hmg hobj hints hlen hg => ?_
  obtain ⟨K, sp, KX, hsp, hF⟩ := F w mg fa _ Y G.T.g hmg
  exact lawG_call KX G.T.g G.T.b G.T.builtins G.T.nolimit hg hobj hints (Nat.le_trans hlen hn2) hr hF fun H hS => hsp H a ns hlen hS
end EV

set_option Elab.async false
set_option linter.all false
set_option maxRecDepth 100000
set_option maxHeartbeats 8000000
namespace EV
open PySem PySem.Spec PyProof.Rows L2
/-! ### defs by levels -/
/-- where a def stands: among the module's names; in a class: a function, a property, a classmethod -/
inductive At where
  | glo
  | meth (c : Str)
  | prp (c : Str)
  | cmt (c : Str)
structure DefT where
  st : Stmt
  name : Str
  N : List Str
  np : Nat
  body : List MS
  sh : Bool
  qual : Str
  at_ : At
  va : Bool
  /-- the last parameter is keyword-only, None if it is not given -/
  ko : Bool := false
structure Sys where
  defs : Nat → Option DefT
  isF : Nat → Bool
  glb : Nat → D
  turns : Nat
  okF : Nat → Nat → Bool
  okM : Nat → Nat → Bool
  okX : Nat → Nat → Nat → Bool
/-- what a def's parameters take -/
def argsD (d : DefT) (ds : List D) : Option (List D) :=
  if d.va then (if decide (d.np ≤ ds.length + 1) && okL ds.length then some (ds.take (d.np - 1) ++ [.tup (ds.drop (d.np - 1))]) else none)
  else if d.ko then (if ds.length + 1 = d.np then some (ds ++ [.non]) else none)
  else if ds.length = d.np then some ds else none
def orc (S : Sys) : Nat → Orc
  | 0 => { call := fun _ _ _ => none, callK := fun _ _ _ => none, isF := S.isF, glb := S.glb, okF := S.okF, okM := S.okM, okX := S.okX, turns := S.turns }
  | k + 1 => { call := fun f ds h => match S.defs f with
    | some d => match argsD d ds with
      | some xs => (runD (orc S k) d.N.length d.body xs h).bind (fin d.sh h.length)
      | none => none
    | none => none, callK := fun f ds h => match S.defs f with
    | some d => if d.ko && !d.va && decide (ds.length = d.np) then (runD (orc S k) d.N.length d.body ds h).bind (fin d.sh h.length) else none
    | none => none, isF := S.isF, glb := S.glb, okF := S.okF, okM := S.okM, okX := S.okX, turns := S.turns }
def scopeB (N : List Str) (np : Nat) (sc : Scope) : Bool := fnB sc && !sc.isCoroutine && !sc.isGenerator && decide N.Nodup && decide (np ≤ N.length) && (N.take np).all (locB sc) && sc.names.all fun y => decide (y.2 ≠ .free)
theorem scopeB_ok {N : List Str} {np : Nat} {sc : Scope} (h : scopeB N np sc = true) : FnScope N (N.take np) sc ∧ (N.take np).length = np := by
  unfold scopeB at h
  simp only [Bool.and_eq_true, decide_eq_true_eq, Bool.not_eq_true', List.all_eq_true] at h
  obtain ⟨⟨⟨⟨⟨⟨h1, h2⟩, h3⟩, h4⟩, h5⟩, h6⟩, h7⟩ := h
  have hl : (N.take np).length = np := by rw [List.length_take]; omega
  exact ⟨⟨fn_of h1, h2, h3, h4, by rw [hl], fun x hx => loc_of (h6 x hx), h7⟩, hl⟩
def DefT.ok (T : Tb) (d : DefT) : Bool := scopeB d.N d.np (defScope d.st) && chkSs d.N T (defScope d.st) d.body (defBody d.st) && (!(d.va || d.ko) || decide (1 ≤ d.np))
/-- how a def binds -/
def DefT.Bnd (K : PySem.W.Frag) (d : DefT) (fd : FuncData) : Prop :=
  if d.va then ∀ us rest : List Value, us.length = d.np - 1 → bindArgs fd ⟨us ++ rest, []⟩ = (newTuple rest >>= fun t => pure ((d.N.take (d.np - 1)).zip us ++ [((d.N.getD (d.np - 1) ""), t)]))
  else if d.ko then Binds K fd (d.N.take d.np) [Value.none] ∧ ∀ (s : Shared) (us : List Value) (u : Value), K.In s.heap → us.length + 1 = d.np → BindsTo s fd ⟨us, [((d.N.getD (d.np - 1) ""), u)]⟩ ((d.N.take d.np).zip (us ++ [u]))
  else Binds K fd (d.N.take d.np) []
/-- what the module gives -/
structure Md (C : Cn) (T : Tb) (S : Sys) (mg : Str → Option Value) : Prop where
  fN : C.fN = T.fN
  free : ∀ x ∈ frees, mg x = none
  glb : ∀ g, T.gD g = true → ∃ u v, mg (T.gN g) = some u ∧ RelV v u ∧ ∀ ρ H, RD C ρ H (S.glb g) v
  okF : ∀ c f, S.okF c f = true → Cls C.K (C.cA c) ∧ NoAttr C.K (C.cA c) (C.fN f)
  inj : ∀ c f g, S.okF c f = true → S.okF c g = true → C.fN f = C.fN g → f = g
  isF : ∀ f, S.isF f = true → mg (T.uN f) = some (.ref (C.fA f)) ∧ PySem.W.keepIn C.K (.ref (C.fA f)) = true
  okM : ∀ c f, S.okM c f = true → Cls C.K (C.cA c) ∧ Meth C.K (C.cA c) (T.uN f) (C.fA f) ∧ ∀ g, S.okF c g = true → C.fN g ≠ T.uN f
  cls : ∀ c, T.cD c = true → mg (T.cN c) = some (.ref (C.cA c))
  okX : ∀ c f, (S.okX 0 c f = true → Mk C.K (C.cA c) (C.fA f)) ∧ (S.okX 1 c f = true → Cls C.K (C.cA c) ∧ ∃ p, PropOf C.K (C.cA c) (T.uN f) p (C.fA f)) ∧
    (S.okX 2 c f = true → ∃ mc p, ClX.CRead C.K (C.cA c) mc ∧ ClX.CMet C.K (C.cA c) mc (T.uN f) p (C.fA f)) ∧ (S.okX 3 c f = true → PySem.W.findIn C.K (.ref (C.cA c)) "__str__" = some (some (.ref (C.fA f))) ∧ PySem.W.isFn C.K (.ref (C.fA f)) = true)
  okY : ∀ c f, (S.okX 4 c f = true → PySem.W.findIn C.K (.ref (C.cA c)) "__len__" = some (some (.ref (C.fA f))) ∧ PySem.W.isFn C.K (.ref (C.fA f)) = true) ∧ (S.okX 5 c f = true → PySem.W.findIn C.K (.ref (C.cA c)) "__eq__" = some (some (.ref (C.fA f))) ∧ PySem.W.isFn C.K (.ref (C.fA f)) = true)
  okZ : ∀ c f, S.okX 6 c f = true → IsC C.K (C.cA c)
  fun_ : ∀ f d, S.defs f = some d → d.ok T = true ∧ ∃ fd, FunD C.K d.name d.qual (defArgs d.st) (defBody d.st) (defScope d.st) [] [] (C.fA f) fd ∧ d.Bnd C.K fd
  kN : ∀ f d, S.defs f = some d → T.kN f = d.N.getD (d.np - 1) ""
theorem SR.start {C : Cn} {ρ : Rho} {H : Hp} {N : List Str} : ∀ {ds : List D} {vs : List V}, RDs C ρ H ds vs → SR C ρ H (start N vs) (ds.map some ++ List.replicate (N.length - ds.length) none) := fun {ds vs} r => by
  have hl := r.len
  refine ⟨?_, fun i d e => ?_⟩
  · unfold L2.start
    rw [List.length_append, List.length_append, List.length_map, List.length_map, List.length_replicate, List.length_replicate, hl]
  · by_cases hi : i < ds.length
    · rw [List.getElem?_append_left (by simpa using hi), List.getElem?_map] at e
      obtain ⟨d1, h1, h2⟩ := Option.map_eq_some_iff.mp e
      cases h2
      obtain ⟨v, h3, h4⟩ := r.get h1
      refine ⟨v, ?_, h4⟩
      unfold L2.start
      rw [List.getElem?_append_left (by rw [List.length_map, ← hl]; exact hi), List.getElem?_map, h3]
      rfl
    · rw [List.getElem?_append_right (by simpa using hi), List.getElem?_replicate] at e
      split at e <;> cases e
theorem orc_isF (S : Sys) (k : Nat) : (orc S k).isF = S.isF := by cases k <;> rfl
theorem orc_glb (S : Sys) (k : Nat) : (orc S k).glb = S.glb := by cases k <;> rfl
theorem orc_okF (S : Sys) (k : Nat) : (orc S k).okF = S.okF := by cases k <;> rfl
theorem orc_okM (S : Sys) (k : Nat) : (orc S k).okM = S.okM := by cases k <;> rfl
theorem orc_okX (S : Sys) (k : Nat) : (orc S k).okX = S.okX := by cases k <;> rfl
theorem RDs.split {C : Cn} {ρ : Rho} {H : Hp} : ∀ {ds : List D} {vs : List V} (n : Nat), RDs C ρ H ds vs → RDs C ρ H (ds.take n) (vs.take n) ∧ RDs C ρ H (ds.drop n) (vs.drop n)
  | [], _, n, .nil => by cases n <;> exact ⟨.nil, .nil⟩
  | _ :: _, _ :: _, 0, r => ⟨.nil, r⟩
  | _ :: _, _ :: _, n + 1, .cons r rs => by
    obtain ⟨h1, h2⟩ := RDs.split n rs
    exact ⟨.cons r h1, h2⟩
theorem FnG.imp {P : Program} {w : World} {K : PySem.W.Frag} {mg : Str → Option Value} {base : Heap} {k : Nat} {f : Addr} {sp sp' : Sp} (F : FnG P w K mg base k f sp) (hi : ∀ vs H Q E, sp' vs H Q E → sp vs H Q E) : FnG P w K mg base k f sp' :=
  fun A outer s H us vs Q E hr e0 rv h => F A outer s H us vs Q E hr e0 rv (hi _ _ _ _ h)
/-- what a def's body gives, its parameters at hand -/
def runF (S : Sys) (k : Nat) (d : DefT) : Spec := fun xs h => (runD (orc S k) d.N.length d.body xs h).bind (fin d.sh h.length)
theorem snd_body {P : Program} {C : Cn} {T : Tb} {S : Sys} {mg : Str → Option Value} {base : Heap} (M : Md C T S mg) {k f : Nat} {d : DefT} (ok2 : chkSs d.N T (defScope d.st) d.body (defBody d.st) = true) (sc : FnScope d.N (d.N.take d.np) (defScope d.st))
    (ih : ∀ f, FnG P C.w C.K mg base k (C.fA f) (rCal C ((orc S k).call f))) (ihK : ∀ f, FnGK P C.w C.K mg base k (C.fA f) (T.kN f) (rCal C ((orc S k).callK f)))
    (cdv : Value) (A : Around) (outer : List Env) (s : Shared) (H : Hp) (vs : List V) (Q : VK) (E : XK) (hrm : Rs k (A.deeper (envOfC d.qual (defScope d.st) s.heap.objs.size (C.fA f) cdv))) (hc : rCal C (runF S k d) vs H Q E) :
    ∃ t, PSs (cxOf CX0 P C.w C.K mg base d.N d.qual (defScope d.st) (C.fA f) cdv A outer s H E).nox (defBody d.st) t ∧ t { nx := fun _ H' => Q .non H', rt := Q } (start d.N vs) H := by
  obtain ⟨ρ, h, ds, z, h', hr, rs, e, q⟩ := hc
  have G : Cg (cxOf CX0 P C.w C.K mg base d.N d.qual (defScope d.st) (C.fA f) cdv A outer s H E).nox C T (orc S k) k d.N (defScope d.st) :=
    ⟨⟨rfl, rfl, M.fN, rfl, rfl, hrm, M.free, (by rw [orc_glb]; exact M.glb), (by rw [orc_okF]; exact M.okF), (by rw [orc_okF]; exact M.inj), (by rw [orc_isF]; exact M.isF), (by rw [orc_okM, orc_okF]; exact M.okM), M.cls, (by rw [orc_okX]; exact M.okX), (by rw [orc_okX]; exact M.okY), (by rw [orc_okX]; exact M.okZ), ih, ihK⟩, rfl, sc.nd, rfl⟩
  refine ⟨_, sndSs G (fun _ => rfl) sc.kind d.body ok2, ?_⟩
  obtain ⟨⟨z1, h1⟩, e1, e2⟩ := Option.bind_eq_some_iff.mp e
  unfold runD at e1
  have st := SR.start (N := d.N) rs
  split at e1
  · rename_i dd en1 h2 hx
    cases e1
    exact ⟨ρ, _, h, .rt _, en1, _, st, hr, hx, fun ρ1 H1 x1 hr1 v rv => fin_ok hr x1 hr1 rv e2 q⟩
  · rename_i en1 h2 hx
    cases e1
    exact ⟨ρ, _, h, .nx, en1, _, st, hr, hx, fun ρ1 H1 x1 hr1 σ' sr' => fin_ok hr x1 hr1 .non e2 q⟩
  · cases e1
theorem lvl2 {P : Program} {C : Cn} {T : Tb} {S : Sys} {mg : Str → Option Value} {base : Heap} (M : Md C T S mg) : ∀ k, (∀ f, FnG P C.w C.K mg base k (C.fA f) (rCal C ((orc S k).call f))) ∧ ∀ f, FnGK P C.w C.K mg base k (C.fA f) (T.kN f) (rCal C ((orc S k).callK f))
  | 0 => ⟨fun f A outer s H us vs Q E hr e0 r ⟨ρ, h, ds, z, h', _, _, e, _⟩ => (by cases e), fun f A outer s H us vs u v Q E hr e0 r ru ⟨ρ, h, ds, z, h', _, _, e, _⟩ => (by cases e)⟩
  | k + 1 => by
    obtain ⟨ih, ihK⟩ := lvl2 (P := P) (base := base) M k
    refine ⟨fun f => ?_, fun f => ?_⟩
    · cases hd : S.defs f with
      | none =>
        intro A outer s H us vs Q E hr e0 r ⟨ρ, h, ds, z, h', _, _, e, _⟩
        have e : (match S.defs f with
          | some d => match argsD d ds with
            | some xs => (runD (orc S k) d.N.length d.body xs h).bind (fin d.sh h.length)
            | none => none
          | none => none) = some (z, h') := e
        rw [hd] at e
        cases e
      | some d =>
        obtain ⟨ok, fd, F, hb⟩ := M.fun_ f d hd
        obtain ⟨ok0, ok3⟩ := Bool.and_eq_true_iff.mp ok
        obtain ⟨ok1, ok2⟩ := Bool.and_eq_true_iff.mp ok0
        obtain ⟨sc, hnp⟩ := scopeB_ok ok1
        have ex : ∀ {ds h z h'}, (orc S (k + 1)).call f ds h = some (z, h') → ∃ xs, argsD d ds = some xs ∧ runF S k d xs h = some (z, h') := fun {ds h z h'} e => by
          have e : (match S.defs f with
            | some d => match argsD d ds with
              | some xs => (runD (orc S k) d.N.length d.body xs h).bind (fin d.sh h.length)
              | none => none
            | none => none) = some (z, h') := e
          rw [hd] at e
          dsimp only at e
          split at e
          · rename_i xs hx
            exact ⟨xs, hx, e⟩
          · cases e
        have body := snd_body (P := P) (base := base) M (f := f) ok2 sc ih ihK
        cases hva : d.va with
        | false =>
          unfold DefT.Bnd at hb
          rw [if_neg (by rw [hva]; exact Bool.false_ne_true)] at hb
          cases hko : d.ko with
          | false =>
            rw [if_neg (by rw [hko]; exact Bool.false_ne_true)] at hb
            have ex2 : ∀ {ds h z h'}, (orc S (k + 1)).call f ds h = some (z, h') → ds.length = d.np ∧ runF S k d ds h = some (z, h') := fun {ds h z h'} e => by
              obtain ⟨xs, hx, hr⟩ := ex e
              unfold argsD at hx
              rw [if_neg (by rw [hva]; exact Bool.false_ne_true), if_neg (by rw [hko]; exact Bool.false_ne_true)] at hx
              split at hx
              · rename_i hl
                cases hx
                exact ⟨hl, hr⟩
              · cases hx
            refine fnG_of F sc (fun vs H Q E ⟨ρ, h, ds, z, h', hr, rs, e, q⟩ => ?_) hb fun cdv A outer s H vs Q E hrm ⟨ρ, h, ds, z, h', hr, rs, e, q⟩ => ?_
            · obtain ⟨hl, _⟩ := ex2 e
              rw [hnp, ← rs.len, hl]
            · exact body cdv A outer s H vs Q E hrm ⟨ρ, h, ds, z, h', hr, rs, (ex2 e).2, q⟩
          | true =>
            rw [if_pos hko] at hb
            intro A outer s H us vs Q E hr e0 r ⟨ρ, h, ds, z, h', hr0, rs, e, q⟩
            obtain ⟨xs, hx, hrun⟩ := ex e
            unfold argsD at hx
            rw [if_neg (by rw [hva]; exact Bool.false_ne_true), if_pos hko] at hx
            split at hx
            · rename_i hl
              cases hx
              have hlen : (vs ++ [V.non]).length = (d.N.take d.np).length := by rw [hnp, List.length_append, ← rs.len]; exact hl
              have rv : Vals (vs ++ [V.non]) (us ++ [Value.none]) := r.append (.cons rfl .nil)
              exact fnG_core F sc body A outer s H (us ++ [Value.none]) (vs ++ [.non]) ⟨us, []⟩ Q E hr e0 rv hlen (fun KX => hb.1 s us KX (by rw [← rv.length, hlen])) ⟨ρ, h, ds ++ [.non], z, h', hr0, rs.app (.cons .non .nil), hrun, q⟩
            · cases hx
        | true =>
          unfold DefT.Bnd at hb
          rw [if_pos hva] at hb
          have h1 : 1 ≤ d.np := by
            rw [hva] at ok3
            exact of_decide_eq_true ok3
          have hle : d.np ≤ d.N.length := by rw [List.length_take] at hnp; omega
          have hsp : d.N.take d.np = d.N.take (d.np - 1) ++ [d.N.getD (d.np - 1) ""] := by
            have e1 : d.np = (d.np - 1) + 1 := by omega
            have hlt : d.np - 1 < d.N.length := by omega
            rw [List.getD_eq_getElem?_getD, List.getElem?_eq_getElem hlt]
            conv => lhs; rw [e1]
            rw [List.take_add_one, List.getElem?_eq_getElem hlt]
            rfl
          have hpl : (d.N.take (d.np - 1)).length = d.np - 1 := by rw [List.length_take]; omega
          have F1 := fnG_star (P := P) (w := C.w) (mg := mg) (base := base) (k := k) (ps := d.N.take (d.np - 1)) (pv := d.N.getD (d.np - 1) "") (N := d.N) (sp := rCal C (runF S k d)) F (by rw [← hsp]; exact sc) (by rw [hpl]; exact hb) body
          refine F1.imp fun vs H Q E ⟨ρ, h, ds, z, h', hr, rs, e, q⟩ => ?_
          obtain ⟨xs, hx, hrun⟩ := ex e
          unfold argsD at hx
          rw [if_pos hva] at hx
          split at hx
          · rename_i hc
            rw [Bool.and_eq_true, decide_eq_true_eq] at hc
            cases hx
            obtain ⟨r1, r2⟩ := rs.split (d.np - 1)
            have hlen := rs.len
            have hok : ds.length ≤ 1000000 := of_decide_eq_true hc.2
            refine ⟨vs.take (d.np - 1), vs.drop (d.np - 1), (List.take_append_drop _ _).symm, by rw [hpl, List.length_take]; omega, Nat.le_trans (by rw [List.length_drop]; omega : _ ≤ 1000000) (by decide), fun p hp => ?_⟩
            have xt := Ext.laid (o := HO.tup (vs.drop (d.np - 1))) hr hp
            exact ⟨ρ, h, _, z, h', hr.laid hp, RDs.app (r1.mono xt) (.cons (.tup (.inl upd_same) (hr.fresh hp) (r2.mono xt)) .nil), hrun, fun ρ' H' v x' hr' rv => q ρ' H' v (xt.trans x') hr' rv⟩
          · cases hx
    · intro A outer s H us vs u v Q E hr e0 r ru ⟨ρ, h, ds, z, h', hr0, rs, e, q⟩
      have e : (match S.defs f with
        | some d => if d.ko && !d.va && decide (ds.length = d.np) then (runD (orc S k) d.N.length d.body ds h).bind (fin d.sh h.length) else none
        | none => none) = some (z, h') := e
      split at e
      · rename_i d hd
        split at e
        · rename_i hc
          simp only [Bool.and_eq_true, Bool.not_eq_true', decide_eq_true_eq] at hc
          obtain ⟨⟨hko, hva⟩, hl⟩ := hc
          obtain ⟨ok, fd, F, hb⟩ := M.fun_ f d hd
          obtain ⟨ok0, ok3⟩ := Bool.and_eq_true_iff.mp ok
          obtain ⟨ok1, ok2⟩ := Bool.and_eq_true_iff.mp ok0
          obtain ⟨sc, hnp⟩ := scopeB_ok ok1
          have body := snd_body (P := P) (base := base) M (f := f) ok2 sc ih ihK
          unfold DefT.Bnd at hb
          rw [if_neg (by rw [hva]; exact Bool.false_ne_true), if_pos hko] at hb
          have hlen : (vs ++ [v]).length = (d.N.take d.np).length := by rw [hnp, ← rs.len, hl]
          have rv : Vals (vs ++ [v]) (us ++ [u]) := r.append (.cons ru .nil)
          have hul : us.length + 1 = d.np := by
            have := rv.length
            rw [List.length_append, List.length_append] at this
            have h2 := hlen
            rw [hnp, List.length_append] at h2
            simp only [List.length_cons, List.length_nil] at this h2
            omega
          rw [M.kN f d hd]
          exact fnG_core F sc body A outer s H (us ++ [u]) (vs ++ [v]) ⟨us, [(_, u)]⟩ Q E hr e0 rv hlen (fun KX => hb.2 s us u KX hul) ⟨ρ, h, ds, z, h', hr0, rs, e, q⟩
        · cases e
      · cases e
theorem lvl {P : Program} {C : Cn} {T : Tb} {S : Sys} {mg : Str → Option Value} {base : Heap} (M : Md C T S mg) (k f : Nat) : FnG P C.w C.K mg base k (C.fA f) (rCal C ((orc S k).call f)) := (lvl2 M k).1 f
end EV

set_option Elab.async false
set_option linter.all false
set_option maxRecDepth 100000
set_option maxHeartbeats 8000000
namespace EV
open PySem PySem.Spec PyProof.Rows L2
/-! ### the module's constants, read from the written part -/
def eachV (f : Value → Option D) : List Value → Option (List D)
  | [] => some []
  | x :: xs => match f x, eachV f xs with
    | some y, some ys => some (y :: ys)
    | _, _ => none
def rdK (K : PySem.W.Frag) : Nat → Value → Option D
  | _, .none => some .non
  | _, .bool b => some (.bl b)
  | _, .int i _ => some (.int i)
  | _, .str x _ => if okS x.cps.toList then some (.str x.cps.toList) else none
  | n + 1, .ref a => match K.lookup a with
    | some ⟨.type c, _, .seq its _, _⟩ => if decide (c = "tuple") && decide (its.size ≤ 1000) then (eachV (rdK K n) its.toList).map .tup else none
    | _ => none
  | _, _ => none
theorem mk_of (x : Str) : mk x.cps.toList = x := by
  show (⟨x.cps.toList.toArray⟩ : Str) = x
  simp
theorem str_D {C : Cn} {x : Str} (h : okS x.cps.toList = true) (ρ : Rho) (H : Hp) : RD C ρ H (.str x.cps.toList) (.str x) := by
  have := RD.str (C := C) (ρ := ρ) (H := H) _ h
  rw [mk_of] at this
  exact this
theorem rdK_ok {C : Cn} : ∀ (n : Nat) {u : Value} {d : D}, rdK C.K n u = some d → ∃ v, RelV v u ∧ ∀ ρ H, RD C ρ H d v := by
  have flat : ∀ (n : Nat) {u : Value} {d : D}, (∀ a, u ≠ .ref a) → rdK C.K n u = some d → ∃ v, RelV v u ∧ ∀ ρ H, RD C ρ H d v := by
    intro n u d hr e
    cases u with
    | none => have e : some D.non = some d := by cases n <;> exact e
              cases e; exact ⟨.non, rfl, fun _ _ => .non⟩
    | bool b => have e : some (D.bl b) = some d := by cases n <;> exact e
                cases e; exact ⟨.bl _, rfl, fun _ _ => .bl _⟩
    | int i t => have e : some (D.int i) = some d := by cases n <;> exact e
                 cases e; exact ⟨.int _, ⟨_, rfl⟩, fun _ _ => .int _⟩
    | str x t =>
      have e : (if okS x.cps.toList then some (D.str x.cps.toList) else none) = some d := by cases n <;> exact e
      split at e
      · rename_i h; cases e; exact ⟨.str x, ⟨_, rfl⟩, fun _ _ => str_D h _ _⟩
      · cases e
    | ref a => exact absurd rfl (hr a)
    | _ => cases n <;> cases e
  intro n
  induction n with
  | zero =>
    intro u d e
    cases u with
    | ref a => cases e
    | _ => exact flat 0 (fun a z => by cases z) e
  | succ n ih =>
    have each : ∀ {us : List Value} {ds : List D}, eachV (rdK C.K n) us = some ds → ∃ vs, Vals vs us ∧ ∀ ρ H, RDs C ρ H ds vs := by
      intro us
      induction us with
      | nil => intro ds e; cases e; exact ⟨[], .nil, fun _ _ => .nil⟩
      | cons u us ih2 =>
        intro ds e
        unfold eachV at e
        split at e
        · rename_i y ys h1 h2
          cases e
          obtain ⟨v, r, q⟩ := ih h1
          obtain ⟨vs, rs, qs⟩ := ih2 h2
          exact ⟨v :: vs, .cons r rs, fun ρ H => .cons (q ρ H) (qs ρ H)⟩
        · cases e
    intro u d e
    cases u with
    | ref a =>
      have e : (match C.K.lookup a with
        | some ⟨.type c, _, .seq its _, _⟩ => if decide (c = "tuple") && decide (its.size ≤ 1000) then (eachV (rdK C.K n) its.toList).map D.tup else none
        | _ => none) = some d := e
      split at e
      · rename_i c od its m sl hk
        split at e
        · rename_i hc
          rw [Bool.and_eq_true, decide_eq_true_eq, decide_eq_true_eq] at hc
          obtain ⟨ds, e1, rfl⟩ := Option.map_eq_some_iff.mp e
          obtain ⟨vs, rs, qs⟩ := each e1
          exact ⟨.ref a, rfl, fun ρ H => .tupK hk (congrArg Value.type hc.1) rfl (Nat.le_trans hc.2 (by decide)) rs (qs ρ H)⟩
        · cases e
      · cases e
    | _ => exact flat (n + 1) (fun a z => by cases z) e
/-- a dict of the top, its keys texts -/
def rdE (K : PySem.W.Frag) (e : DictEntry) : Option (S × D) := match e.key with
  | .str x _ => if okS x.cps.toList then (rdK K 4 e.val).map fun d => (x.cps.toList, d) else none
  | _ => none
def eachE (f : DictEntry → Option (S × D)) : List DictEntry → Option (List (S × D))
  | [] => some []
  | x :: xs => match f x, eachE f xs with
    | some y, some ys => some (y :: ys)
    | _, _ => none
def rdG (K : PySem.W.Frag) (u : Value) : Option D := match u with
  | .ref a => match K.lookup a with
    | some ⟨_, _, .dict es _, _⟩ => (eachE (rdE K) es.toList).map fun kvs => .kdc (kvs.map fun q => .str q.1) (kvs.map (·.2))
    | _ => rdK K 5 u
  | u => rdK K 5 u
/-- a constant as it is seen: what it is, a dict's keys -/
abbrev Seen : Type := Option (D × Option (List (Option (Str × Int))))
def seeG (K : PySem.W.Frag) (x : Str) : Seen := match PySem.W.nsIn K mainGlobals x with
  | some (some u) => (rdG K u).map fun d => (d, match u with
    | .ref a => He.dicW K a
    | _ => none)
  | _ => none
def keyT : D → Str
  | .str s => mk s
  | _ => ""
def valG (w : World) (d : D) : Seen := some (d, match d with
  | .kdc ks _ => some (He.keysIn w.params (ks.map keyT))
  | _ => none)
theorem eachE_ref {K : PySem.W.Frag} : ∀ {es : List DictEntry} {kvs : List (S × D)}, eachE (rdE K) es = some kvs → es.any (·.refKey) = false
  | [], _, _ => rfl
  | x :: es, kvs, e => by
    unfold eachE at e
    split at e
    · rename_i y ys h1 h2
      rw [List.any_cons, eachE_ref h2, Bool.or_false]
      unfold rdE at h1
      unfold DictEntry.refKey
      split at h1
      · rename_i hk; rw [hk]
      · cases h1
    · cases e
theorem eachE_V {C : Cn} : ∀ {es : List DictEntry} {kvs : List (S × D)}, eachE (rdE C.K) es = some kvs → ∃ vs : List V, kvs.length = vs.length ∧ (∀ ρ H, RDs C ρ H (kvs.map (·.2)) vs) ∧
    ∀ z : S, match lookS z ((kvs.map (·.1)).zip vs) with
      | some v => ∃ e u, es.find? (·.key.isStr (mk z)) = some e ∧ e.val = u ∧ RelV v u
      | none => es.find? (·.key.isStr (mk z)) = none
  | [], _, e => by cases e; exact ⟨[], rfl, fun _ _ => .nil, fun z => rfl⟩
  | x :: es, kvs, e => by
    unfold eachE at e
    split at e
    · rename_i y ys h1 h2
      cases e
      obtain ⟨vs, hl, q, g⟩ := eachE_V h2
      unfold rdE at h1
      split at h1
      · rename_i t tk hk
        split at h1
        · obtain ⟨d, e1, rfl⟩ := Option.map_eq_some_iff.mp h1
          obtain ⟨v, rv, rq⟩ := rdK_ok 4 e1
          refine ⟨v :: vs, by simp [hl], fun ρ H => .cons (rq ρ H) (q ρ H), fun z => ?_⟩
          have hz : x.key.isStr (mk z) = decide (t.cps.toList = z) := by
            rw [hk]
            show (t == mk z) = _
            rw [Bool.eq_iff_iff, beq_iff_eq, decide_eq_true_eq]
            constructor
            · intro h; rw [h, mk_tl]
            · intro h; rw [← h, mk_of]
          show match (if t.cps.toList = z then some v else lookS z ((ys.map (·.1)).zip vs)) with
            | some v => ∃ e u, (x :: es).find? (·.key.isStr (mk z)) = some e ∧ e.val = u ∧ RelV v u
            | none => (x :: es).find? (·.key.isStr (mk z)) = none
          rw [List.find?_cons, hz]
          by_cases h : t.cps.toList = z
          · rw [if_pos h, decide_eq_true h]
            exact ⟨x, _, rfl, rfl, rv⟩
          · rw [if_neg h, decide_eq_false h]
            exact g z
        · cases h1
      · cases h1
    · cases e
theorem seeG_ok {C : Cn} {h : Heap} {mg : Str → Option Value} {x : Str} {d : D} (X : C.K.In h) (G : h.Ns mainGlobals mg) (e : seeG C.K x = valG C.w d) : ∃ u v, mg x = some u ∧ RelV v u ∧ ∀ ρ H, RD C ρ H d v := by
  unfold seeG valG at e
  split at e
  · rename_i u hu
    obtain ⟨d1, e1, e2⟩ := Option.map_eq_some_iff.mp e
    have e3 : d1 = d := congrArg Prod.fst e2
    have e4 := congrArg Prod.snd e2
    subst e3
    refine ⟨u, ?_⟩
    have hm : mg x = some u := PySem.W.mg_of X G hu
    unfold rdG at e1
    split at e1
    · rename_i a
      split at e1
      · rename_i oc od es m sl hk
        obtain ⟨kvs, e5, rfl⟩ := Option.map_eq_some_iff.mp e1
        have e4 : He.dicW C.K a = some (He.keysIn C.w.params ((kvs.map fun q => D.str q.1).map keyT)) := e4
        obtain ⟨es', n', D0⟩ := He.dicW_ok e4
        obtain ⟨vs, hl, q, g⟩ := eachE_V e5
        have hes : es' = es := by
          have := D0.at_
          rw [hk] at this
          cases this
          rfl
        subst hes
        refine ⟨.ref a, hm, rfl, fun ρ H => .dctK (kvs := (kvs.map (·.1)).zip vs) ⟨⟨_, _, D0⟩, fun z => ?_⟩ ?_ ?_⟩
        · have gz := g z
          have hr := eachE_ref e5
          split at gz
          · rename_i v hv
            obtain ⟨en, u, f1, f2, f3⟩ := gz
            try rw [hv]
            exact ⟨u, by unfold PySem.W.nsIn; rw [hk]; dsimp only; rw [f1, ← f2], f3⟩
          · rename_i hv
            try rw [hv]
            show PySem.W.nsIn C.K a (mk z) = some none
            unfold PySem.W.nsIn
            rw [hk]
            dsimp only
            rw [gz]
            dsimp only
            rw [hr]
            rfl
        · rw [show (fun q : S × V => D.str q.1) = D.str ∘ Prod.fst from rfl, ← List.map_map, List.map_fst_zip (by simp; omega), List.map_map]
          rfl
        · rw [List.map_snd_zip (by simp; omega)]
          exact q ρ H
      · obtain ⟨v, r1, r2⟩ := rdK_ok 5 e1
        exact ⟨v, hm, r1, r2⟩
    · obtain ⟨v, r1, r2⟩ := rdK_ok 5 e1
      exact ⟨v, hm, r1, r2⟩
  · cases e
/-! ### the head's Hook -/
abbrev AlG : Type := He.AlD × List Seen × Bool
def obsH (fa : List He.Fa) (fn : List He5.DefA) (gs : List Str) (ex : PySem.W.Frag → Bool) (K : PySem.W.Frag) : AlG := (He5.obsA fa fn K, gs.map (seeG K), ex K)
def valH (fn : List He5.DefA) (ds : List D) (w : World) : AlG := (He5.valA fn, ds.map (valG w), true)
def obsHG (n : Nat) (fa : List He.Fa) (fn : List He5.DefA) (gs : List Str) (ex : PySem.W.Frag → Bool) (g : Addr → Option Obj) : AlG := obsH fa fn gs ex (He.frG g (He5.asA g n))
def hookH (n : Nat) (fa : List He.Fa) (fn : List He5.DefA) (gs : List Str) (ex : PySem.W.Frag → Bool) (ds : List D) : PySem.W.Hook where
  α := AlG
  obs := fun s => obsHG n fa fn gs ex s.heap.get?
  val := fun w => valH fn ds w
  says := fun w h => ∃ K : PySem.W.Frag, K.In h ∧ obsH fa fn gs ex K = valH fn ds w
  of := fun _ _ e => ⟨_, He.frG_in, e⟩
  keeps := fun _ _ _ ⟨K, hK, c⟩ k => ⟨K, PySem.W.Frag.In.keeps hK k, c⟩
theorem obsHG_eq {n : Nat} {fa : List He.Fa} {fn : List He5.DefA} {gs : List Str} {ex : PySem.W.Frag → Bool} {ds : List D} {g : Addr → Option Obj} {s : Shared} (h : ∀ a, g a = s.heap.get? a) : obsHG n fa fn gs ex g = (hookH n fa fn gs ex ds).obs s := by
  have e : g = s.heap.get? := funext h
  rw [e] <;> rfl
/-- where a def's function stands -/
def DefT.ad (d : DefT) (K : PySem.W.Frag) : Addr := match d.at_ with
  | .glo => He.ga K d.name
  | .meth c => He.ma K (He.ga K c) d.name
  | .prp c => He5.wf K (He.ga K c) "property" d.name
  | .cmt c => He5.wf K (He.ga K c) "classmethod" d.name
def DefT.dd (d : DefT) : He5.DefA := ⟨d.ad, d.name, d.qual, defArgs d.st, defBody d.st, defScope d.st, [], if d.ko then [((d.N.getD (d.np - 1) ""), He.Dv.non)] else []⟩
def AllD (P : DefT → Prop) : List DefT → Prop
  | [] => True
  | d :: ds => P d ∧ AllD P ds
theorem AllD.get {P : DefT → Prop} : ∀ {l : List DefT} {i : Nat} {d : DefT}, AllD P l → l[i]? = some d → P d
  | [], _, _, _, e => by cases e
  | x :: l, 0, d, h, e => by cases e; exact h.1
  | x :: l, i + 1, d, h, e => AllD.get h.2 (by simpa using e)
/-- how a def binds its parameters -/
def DefT.Bd (d : DefT) : Prop := ∀ (kV doc pm : Value) (an : Option Addr) (cdv ct : Value), match d.va, d.ko with
  | true, _ => ∀ us rest : List Value, us.length = d.np - 1 → bindArgs (PySem.W.fnOf d.name d.qual (defArgs d.st) (defBody d.st) (defScope d.st) .none kV doc pm an cdv ct) ⟨us ++ rest, []⟩ = (newTuple rest >>= fun t => pure ((d.N.take (d.np - 1)).zip us ++ [((d.N.getD (d.np - 1) ""), t)]))
  | false, true => (∀ (D : Addr) (us ks : List Value), kV = .ref D → us.length + 1 = d.np → ks.length = 1 → KwChain D ([(d.N.getD (d.np - 1) "")].zip ks) (bindArgs (PySem.W.fnOf d.name d.qual (defArgs d.st) (defBody d.st) (defScope d.st) .none kV doc pm an cdv ct) ⟨us, []⟩) ((d.N.take d.np).zip (us ++ ks))) ∧
    ∀ (us : List Value) (u : Value), us.length + 1 = d.np → bindArgs (PySem.W.fnOf d.name d.qual (defArgs d.st) (defBody d.st) (defScope d.st) .none kV doc pm an cdv ct) ⟨us, [((d.N.getD (d.np - 1) ""), u)]⟩ = pure ((d.N.take d.np).zip (us ++ [u]))
  | false, false => ∀ us : List Value, us.length = (d.N.take d.np).length → bindArgs (PySem.W.fnOf d.name d.qual (defArgs d.st) (defBody d.st) (defScope d.st) .none kV doc pm an cdv ct) ⟨us, []⟩ = pure ((d.N.take d.np).zip us)
theorem FunD.less {K : PySem.W.Frag} {x qual : Str} {params : Arguments} {body : List Stmt} {scope : Scope} {kws : List (Str × V)} {f : Addr} {fd : FuncData} (F : FunD K x qual params body scope [] kws f fd) : FunD K x qual params body scope [] [] f fd := by
  obtain ⟨oc, od, dV, kV, doc, pm, an, cdv, ct, osl, e, lk, hcd, hD, hK⟩ := F.ex
  exact ⟨⟨oc, od, dV, kV, doc, pm, an, cdv, ct, osl, e, lk, hcd, hD, .inl rfl⟩, F.kp⟩
/-- a def's keyword-only default -/
def DefT.kw (d : DefT) : List (Str × V) := if d.ko then [((d.N.getD (d.np - 1) ""), V.non)] else []
theorem DefT.Bd.bnd {K : PySem.W.Frag} {d : DefT} {f : Addr} {fd : FuncData} (b : d.Bd) (hnp : d.ko = true → (d.N.take d.np).length = d.np) (F : FunD K d.name d.qual (defArgs d.st) (defBody d.st) (defScope d.st) [] d.kw f fd) : d.Bnd K fd := by
  unfold DefT.Bnd
  cases hva : d.va with
  | true =>
    rw [if_pos rfl]
    obtain ⟨oc, od, dV, kV, doc, pm, an, cdv, ct, osl, rfl, lk, hcd, hD, hK⟩ := F.ex
    rcases hD with ⟨_, rfl⟩ | ⟨e, _⟩
    · have := b kV doc pm an cdv ct
      rw [hva] at this
      exact this
    · exact absurd rfl e
  | false =>
    rw [if_neg Bool.false_ne_true]
    cases hko : d.ko with
    | true =>
      rw [if_pos rfl]
      have hnp := hnp hko
      obtain ⟨oc, od, dV, kV, doc, pm, an, cdv, ct, osl, rfl, lk, hcd, hD, hK⟩ := F.ex
      unfold DefT.kw at hK
      rw [if_pos hko] at hK
      rcases hD with ⟨_, rfl⟩ | ⟨e, _⟩
      · have bb := b kV doc pm an cdv ct
        rw [hva, hko] at bb
        obtain ⟨b1, b2⟩ := bb
        refine ⟨fun s us X hlen => ?_, fun s us u X hl => .of_eq (b2 us u hl)⟩
        rcases hK with e | ⟨D, rfl, hq⟩
        · cases e
        · obtain ⟨ks, hl, rk, hks⟩ := kwd_vals hq
          have hlen : us.length + 1 = d.np := by rw [List.length_append, hnp] at hlen; exact hlen
          cases rk with
          | @cons _ uw _ _ ru rk0 =>
            cases rk0
            cases (show uw = Value.none from ru)
            exact BindsTo.of_looks fun M => KwChain.looks X hks (b1 D us [Value.none] rfl hlen rfl)
      · exact absurd rfl e
    | false =>
      rw [if_neg Bool.false_ne_true]
      refine FunD.bindsN (ps := d.N.take d.np) (FunD.less F) fun kV doc pm an cdv ct us hl => ?_
      have := b kV doc pm an cdv ct
      rw [hva, hko] at this
      exact this us hl
/-- a class: its name, its fields -/
structure ClT where
  name : Str
  fs : List Nat
def eqAt : At → At → Bool
  | .glo, .glo => true
  | .meth a, .meth b => decide (a = b)
  | .prp a, .prp b => decide (a = b)
  | .cmt a, .cmt b => decide (a = b)
  | _, _ => false
theorem eqAt_ok {a b : At} (h : eqAt a b = true) : a = b := by
  cases a <;> cases b <;> first | rfl | (cases h; done) | exact congrArg _ (of_decide_eq_true h)
/-- what a module is: its defs, its constants' names and data, the fields' names, its classes -/
structure ModT where
  dfs : List DefT
  gns : List Str
  gv : List D
  fns : List Str
  cs : List ClT
  turns : Nat
namespace ModT
variable (Q : ModT)
def at2 (c f : Nat) (p : ClT → DefT → Bool) : Bool := match Q.cs[c]?, Q.dfs[f]? with
  | some x, some d => p x d
  | _, _ => false
theorem at2_ok {Q : ModT} {c f : Nat} {p : ClT → DefT → Bool} (h : Q.at2 c f p = true) : ∃ x d, Q.cs[c]? = some x ∧ Q.dfs[f]? = some d ∧ p x d = true := by
  unfold at2 at h
  split at h
  · rename_i x d h1 h2; exact ⟨x, d, h1, h2, h⟩
  · cases h
def isF (f : Nat) : Bool := match Q.dfs[f]? with
  | some d => eqAt d.at_ .glo
  | none => false
def okF (c f : Nat) : Bool := match Q.cs[c]? with
  | some x => x.fs.contains f
  | none => false
def okM (c f : Nat) : Bool := Q.at2 c f fun x d => eqAt d.at_ (.meth x.name)
def okX : Nat → Nat → Nat → Bool
  | 0, c, f => Q.at2 c f fun x d => eqAt d.at_ (.meth x.name) && decide (d.name = "__init__")
  | 1, c, f => Q.at2 c f fun x d => eqAt d.at_ (.prp x.name)
  | 2, c, f => Q.at2 c f fun x d => eqAt d.at_ (.cmt x.name)
  | 3, c, f => Q.at2 c f fun x d => eqAt d.at_ (.meth x.name) && decide (d.name = "__str__")
  | 4, c, f => Q.at2 c f fun x d => eqAt d.at_ (.meth x.name) && decide (d.name = "__len__")
  | 5, c, f => Q.at2 c f fun x d => eqAt d.at_ (.meth x.name) && decide (d.name = "__eq__")
  | 6, c, _ => decide (c < Q.cs.length)
  | _, _, _ => false
def sys : Sys := ⟨fun f => Q.dfs[f]?, Q.isF, fun g => Q.gv.getD g .non, Q.turns, Q.okF, Q.okM, Q.okX⟩
def tab : Tb := ⟨fun g => Q.gns.getD g "", fun g => decide (g < Q.gns.length), fun f => (Q.dfs.map (·.name)).getD f "", fun f => Q.fns.getD f "", fun c => (Q.cs.map (·.name)).getD c "", fun c => decide (c < Q.cs.length), fun f => (Q.dfs.map fun d => d.N.getD (d.np - 1) "").getD f ""⟩
def cn (K : PySem.W.Frag) (w : World) : Cn := ⟨K, w, fun c => He.ga K ((Q.cs.map (·.name)).getD c ""), fun f => match Q.dfs[f]? with
  | some d => d.ad K
  | none => 0, fun f => Q.fns.getD f ""⟩
/-- what the head is asked -/
def facts : List He.Fa := (Q.dfs.filter fun d => eqAt d.at_ .glo).map (fun d => .glo d.name) ++ frees.map fun x => .free x
def dds : List He5.DefA := Q.dfs.map DefT.dd
def prpB (K : PySem.W.Frag) (C : Addr) (m : Str) : Bool := He.eqO (PySem.W.findIn K (.ref C) m) (some (some (.ref (He.ma K C m)))) && (He.eqO (PySem.W.specialIn K (.ref (He.ma K C m)) "__get__") (some (some (.builtin "property.__get__"))) &&
  (decide (PySem.W.takesIn K (.ref (He.ma K C m)) = some true) && (match PySem.W.recIn K (He.ma K C m) "property" with
    | some (.ref _ :: _) => true
    | _ => false)))
theorem prpB_ok {K : PySem.W.Frag} {C : Addr} {m : Str} (h : prpB K C m = true) : PropOf K C m (He.ma K C m) (He5.wf K C "property" m) := by
  obtain ⟨h1, h⟩ := He.ba h
  obtain ⟨h2, h⟩ := He.ba h
  obtain ⟨h3, h4⟩ := He.ba h
  refine ⟨He.eqO_ok h1, He.eqO_ok h2, of_decide_eq_true h3, ?_⟩
  unfold He5.wf
  split at h4
  · rename_i f r e
    exact ⟨r, by rw [e]⟩
  · cases h4
def cmtB (K : PySem.W.Frag) (C : Addr) (m : Str) : Bool := He5.wrapB K C "classmethod" "classmethod.__get__" m && (PySem.W.fnIn K (He5.wf K C "classmethod" m) && PySem.W.readsIn K C (.type "type"))
theorem cread_ok {K : PySem.W.Frag} {C : Addr} (h : PySem.W.readsIn K C (.type "type") = true) : ClX.CRead K C (.type "type") := by
  refine ⟨h, ?_⟩
  unfold PySem.W.readsIn at h
  obtain ⟨h, _⟩ := He.ba h
  obtain ⟨h, _⟩ := He.ba h
  obtain ⟨h, h3⟩ := He.ba h
  obtain ⟨_, h2⟩ := He.ba h
  unfold PySem.W.specialIn
  rw [beq_iff_eq.mp h2, Option.bind_some]
  exact beq_iff_eq.mp h3
def atB (K : PySem.W.Frag) (d : DefT) : Bool := match d.at_ with
  | .glo => true
  | .meth c => (He.Fa.meth c d.name).ok K && (!decide (d.name = "__init__") || (He.Fa.mkr c).ok K)
  | .prp c => prpB K (He.ga K c) d.name
  | .cmt c => cmtB K (He.ga K c) d.name
def iscB (K : PySem.W.Frag) (C : Addr) : Bool := He.eqO (PySem.W.findIn K (.ref C) "__class__") (some (some (.builtin "object.__class__"))) && (He.eqO (PySem.W.specialIn K (.builtin "object.__class__") "__get__") (some (some (.builtin "getset_descriptor.__get__"))) &&
  (decide (PySem.W.takesIn K (.builtin "object.__class__") = some true) && (decide (PySem.W.mroIn K C (.type "object") = some true) && tyAll.all fun t => decide (PySem.W.kitOne K (.type t) (.ref C) = some false))))
theorem iscB_ok {K : PySem.W.Frag} {C : Addr} (cl : Cls K C) (h : iscB K C = true) : IsC K C := by
  obtain ⟨h1, h⟩ := He.ba h
  obtain ⟨h2, h⟩ := He.ba h
  obtain ⟨h3, h⟩ := He.ba h
  obtain ⟨h4, h5⟩ := He.ba h
  exact ⟨cl, He.eqO_ok h1, He.eqO_ok h2, of_decide_eq_true h3, of_decide_eq_true h4, fun t ht => of_decide_eq_true (List.all_eq_true.mp h5 t ht)⟩
def clB (K : PySem.W.Frag) (c : ClT) : Bool := (He.Fa.glo c.name).ok K && ((He.Fa.cls c.name).ok K && (c.fs.all (fun f => (He.Fa.noat c.name (Q.fns.getD f "")).ok K) && iscB K (He.ga K c.name)))
def ex (K : PySem.W.Frag) : Bool := Q.cs.all (Q.clB K) && Q.dfs.all (atB K)
/-- what is seen without the program -/
def fine : Bool := decide (Q.gns.length = Q.gv.length) && (decide Q.fns.Nodup && (Q.cs.all (fun c => c.fs.all fun f => decide (f < Q.fns.length)) && Q.dfs.all fun d => match d.at_ with
  | .meth _ => !Q.fns.contains d.name
  | _ => true))
end ModT
theorem says_of {Q : ModT} {fa : List He.Fa} {w : World} {K : PySem.W.Frag} (c : obsH fa Q.dds Q.gns Q.ex K = valH Q.dds Q.gv w) : He5.SaysA fa Q.dds K ∧ Q.gns.map (seeG K) = Q.gv.map (valG w) ∧ Q.ex K = true :=
  ⟨congrArg (fun z : AlG => z.1) c, congrArg (fun z : AlG => z.2.1) c, congrArg (fun z : AlG => z.2.2) c⟩
theorem nodup_at {α : Type} : ∀ {l : List α}, l.Nodup → ∀ {i j : Nat} (hi : i < l.length) (hj : j < l.length), l[i] = l[j] → i = j
  | _ :: l, n, 0, 0, _, _, _ => rfl
  | x :: l, n, 0, j + 1, _, hj, e => absurd (show x ∈ l by rw [show x = l[j]'(by simpa using hj) from e]; exact List.getElem_mem _) (List.nodup_cons.mp n).1
  | x :: l, n, i + 1, 0, hi, _, e => absurd (show x ∈ l by rw [show x = l[i]'(by simpa using hi) from e.symm]; exact List.getElem_mem _) (List.nodup_cons.mp n).1
  | x :: l, n, i + 1, j + 1, hi, hj, e => congrArg (· + 1) (nodup_at (List.nodup_cons.mp n).2 (by simpa using hi) (by simpa using hj) e)
theorem getD_of {α β : Type} {l : List α} {i : Nat} {x : α} (f : α → β) (z : β) (h : l[i]? = some x) : (l.map f).getD i z = f x := by
  rw [List.getD_eq_getElem?_getD, List.getElem?_map, h]
  rfl
theorem md_of {Q : ModT} {w : World} {K : PySem.W.Frag} {h : Heap} {mg : Str → Option Value} (hK : K.In h) (G : h.Ns mainGlobals mg) (c : obsH Q.facts Q.dds Q.gns Q.ex K = valH Q.dds Q.gv w)
    (fine : Q.fine = true) (ok : AllD (fun d => d.ok Q.tab = true) Q.dfs) (bd : AllD DefT.Bd Q.dfs) : Md (Q.cn K w) Q.tab Q.sys mg := by
  obtain ⟨cd, cg, cx⟩ := says_of c
  obtain ⟨cx1, cx2⟩ := He.ba cx
  obtain ⟨f1, fine⟩ := He.ba fine
  obtain ⟨f2, fine⟩ := He.ba fine
  obtain ⟨f3, f4⟩ := He.ba fine
  have hl : Q.gns.length = Q.gv.length := of_decide_eq_true f1
  have nd : Q.fns.Nodup := of_decide_eq_true f2
  have fact : ∀ f ∈ Q.facts, f.ok K = true := fun f hf => by
    obtain ⟨i, hi, e⟩ := List.mem_iff_getElem.mp hf
    exact cd.fact i (f := f) (by rw [List.getElem?_eq_getElem hi, e])
  have cls : ∀ {c : Nat} {x : ClT}, Q.cs[c]? = some x → Q.clB K x = true ∧ (Q.cn K w).cA c = He.ga K x.name ∧ Q.tab.cN c = x.name ∧ ∀ f ∈ x.fs, f < Q.fns.length := fun {c x} hx => by
    have e : (Q.cs.map (·.name)).getD c ("" : Str) = x.name := getD_of _ _ hx
    refine ⟨List.all_eq_true.mp cx1 x (List.mem_of_getElem? hx), ?_, e, fun f hf => ?_⟩
    · show He.ga K ((Q.cs.map (·.name)).getD c "") = _
      rw [e]
    · exact of_decide_eq_true (List.all_eq_true.mp (List.all_eq_true.mp f3 x (List.mem_of_getElem? hx)) f hf)
  have isC : ∀ {c : Nat} {x : ClT}, Q.cs[c]? = some x → Cls K ((Q.cn K w).cA c) := fun {c x} hx => by
    obtain ⟨h1, h2, _⟩ := cls hx
    rw [h2]
    exact He.cls_ok (He.ba (He.ba h1).2).1
  have def_ : ∀ {f : Nat} {d : DefT}, Q.dfs[f]? = some d → (Q.cn K w).fA f = d.ad K ∧ Q.tab.uN f = d.name ∧ (∃ fd, FunD K d.name d.qual (defArgs d.st) (defBody d.st) (defScope d.st) [] d.kw (d.ad K) fd) ∧ ModT.atB K d = true := fun {f d} hd => by
    have kwe : d.dd.kws K = d.kw := by
      show (if d.ko then [((d.N.getD (d.np - 1) ""), He.Dv.non)] else []).map (fun q => (q.1, q.2.v K)) = d.kw
      unfold DefT.kw
      cases d.ko <;> rfl
    refine ⟨?_, getD_of _ _ hd, by rw [← kwe]; exact cd.def_ f (d := d.dd) (by show (Q.dfs.map DefT.dd)[f]? = _; rw [List.getElem?_map, hd]; rfl), List.all_eq_true.mp cx2 d (List.mem_of_getElem? hd)⟩
    show (match Q.dfs[f]? with
      | some d => d.ad K
      | none => 0) = _
    rw [hd]
  have okF : ∀ {c f : Nat}, Q.okF c f = true → ∃ x, Q.cs[c]? = some x ∧ f ∈ x.fs := fun {c f} h => by
    unfold ModT.okF at h
    split at h
    · rename_i x hx; exact ⟨x, hx, List.contains_iff_mem.mp h⟩
    · cases h
  have meth : ∀ {x : ClT} {d : DefT}, eqAt d.at_ (.meth x.name) = true → d.at_ = .meth x.name := fun h => eqAt_ok h
  refine ⟨rfl, fun x hx => ?_, fun g hg => ?_, fun c f hf => ?_, fun c f g h1 h2 e => ?_, fun f hf => ?_, fun c f h => ?_, fun c hc => ?_, fun c f => ⟨fun h => ?_, fun h => ?_, fun h => ?_, fun h => ?_⟩, fun c f => ⟨fun h => ?_, fun h => ?_⟩, fun c f h => ?_, fun f d hd => ?_, fun f d hd => getD_of _ _ hd⟩
  · exact He.free_ok hK G (fact (.free x) (List.mem_append_right _ (List.mem_map.mpr ⟨x, hx, rfl⟩)))
  · have hg : g < Q.gns.length := of_decide_eq_true hg
    have e2 : (Q.gns.map (seeG K))[g]? = (Q.gv.map (valG w))[g]? := by rw [cg]
    rw [List.getElem?_map, List.getElem?_map, List.getElem?_eq_getElem hg, List.getElem?_eq_getElem (by omega)] at e2
    have e3 : seeG K Q.gns[g] = valG w (Q.gv[g]'(by omega)) := Option.some.inj e2
    have h1 : Q.tab.gN g = Q.gns[g] := by
      show Q.gns.getD g ("" : Str) = _
      rw [List.getD_eq_getElem?_getD, List.getElem?_eq_getElem hg]
      rfl
    have h2 : Q.sys.glb g = Q.gv[g]'(by omega) := by
      show Q.gv.getD g .non = _
      rw [List.getD_eq_getElem?_getD, List.getElem?_eq_getElem (by omega)]
      rfl
    rw [h1, h2]
    exact seeG_ok (C := Q.cn K w) hK G e3
  · obtain ⟨x, hx, hm⟩ := okF hf
    obtain ⟨h1, h2, _⟩ := cls hx
    refine ⟨isC hx, ?_⟩
    rw [h2]
    exact He.noat_ok (List.all_eq_true.mp (He.ba (He.ba (He.ba h1).2).2).1 f hm)
  · obtain ⟨x, hx, hm⟩ := okF h1
    obtain ⟨y, hy, hn⟩ := okF h2
    have hf := (cls hx).2.2.2 f hm
    have hg := (cls hy).2.2.2 g hn
    have e : Q.fns.getD f ("" : Str) = Q.fns.getD g "" := e
    rw [List.getD_eq_getElem?_getD, List.getD_eq_getElem?_getD, List.getElem?_eq_getElem hf, List.getElem?_eq_getElem hg] at e
    exact nodup_at nd hf hg e
  · have hf : Q.isF f = true := hf
    unfold ModT.isF at hf
    split at hf
    · rename_i d hd
      obtain ⟨h1, h2, ⟨fd, F⟩, _⟩ := def_ hd
      rw [h1, h2]
      refine ⟨?_, F.kp⟩
      have ha : d.ad K = He.ga K d.name := by unfold DefT.ad; rw [eqAt_ok hf]
      rw [ha]
      exact He.glo_ok hK G (fact (.glo d.name) (List.mem_append_left _ (List.mem_map.mpr ⟨d, List.mem_filter.mpr ⟨List.mem_of_getElem? hd, hf⟩, rfl⟩)))
    · cases hf
  · obtain ⟨x, d, hx, hd, hp⟩ := ModT.at2_ok (show Q.okM c f = true from h)
    obtain ⟨h1, h2, _, h4⟩ := def_ hd
    have ha := meth hp
    refine ⟨isC hx, ?_, fun g hg => ?_⟩
    · rw [h1, h2, (cls hx).2.1]
      unfold DefT.ad
      unfold ModT.atB at h4
      rw [ha] at h4 ⊢
      exact He.meth_ok (He.ba h4).1
    · obtain ⟨y, hy, hn⟩ := okF hg
      have hlt := (cls hy).2.2.2 g hn
      rw [h2]
      show Q.fns.getD g ("" : Str) ≠ d.name
      rw [List.getD_eq_getElem?_getD, List.getElem?_eq_getElem hlt]
      intro e
      have h5 := List.all_eq_true.mp f4 d (List.mem_of_getElem? hd)
      rw [ha] at h5
      have h6 : Q.fns.contains d.name = true := List.contains_iff_mem.mpr (by rw [← e]; exact List.getElem_mem hlt)
      have h5 : (!Q.fns.contains d.name) = true := h5
      rw [h6] at h5
      cases h5
  · have hc : c < Q.cs.length := of_decide_eq_true hc
    have hx : Q.cs[c]? = some Q.cs[c] := List.getElem?_eq_getElem hc
    obtain ⟨h1, h2, h3, _⟩ := cls hx
    rw [h2, h3]
    exact He.glo_ok hK G (He.ba h1).1
  · obtain ⟨x, d, hx, hd, hp⟩ := ModT.at2_ok (show Q.okX 0 c f = true from h)
    obtain ⟨h1, h2, _, h4⟩ := def_ hd
    obtain ⟨p1, p2⟩ := He.ba hp
    have hn : d.name = "__init__" := of_decide_eq_true p2
    rw [h1, (cls hx).2.1]
    unfold DefT.ad
    unfold ModT.atB at h4
    rw [meth p1] at h4 ⊢
    have h5 := (He.ba h4).2
    rw [hn] at h5 ⊢
    have h6 : (He.Fa.mkr x.name).ok K = true := by simpa using h5
    exact He.mkr_ok h6
  · obtain ⟨x, d, hx, hd, hp⟩ := ModT.at2_ok (show Q.okX 1 c f = true from h)
    obtain ⟨h1, h2, _, h4⟩ := def_ hd
    refine ⟨isC hx, He.ma K (He.ga K x.name) d.name, ?_⟩
    rw [h1, h2, (cls hx).2.1]
    unfold DefT.ad
    unfold ModT.atB at h4
    rw [eqAt_ok hp] at h4 ⊢
    exact ModT.prpB_ok h4
  · obtain ⟨x, d, hx, hd, hp⟩ := ModT.at2_ok (show Q.okX 2 c f = true from h)
    obtain ⟨h1, h2, _, h4⟩ := def_ hd
    unfold ModT.atB at h4
    rw [eqAt_ok hp] at h4
    obtain ⟨k1, k2⟩ := He.ba h4
    obtain ⟨k2, k3⟩ := He.ba k2
    refine ⟨.type "type", He.ma K (He.ga K x.name) d.name, ?_, ?_⟩
    · rw [(cls hx).2.1]
      exact ModT.cread_ok k3
    · rw [h1, h2, (cls hx).2.1]
      unfold DefT.ad
      rw [eqAt_ok hp]
      exact He5.cmet_of k1 k2
  · obtain ⟨x, d, hx, hd, hp⟩ := ModT.at2_ok (show Q.okX 3 c f = true from h)
    obtain ⟨h1, h2, _, h4⟩ := def_ hd
    obtain ⟨p1, p2⟩ := He.ba hp
    have hn : d.name = "__str__" := of_decide_eq_true p2
    rw [h1, (cls hx).2.1]
    unfold DefT.ad
    unfold ModT.atB at h4
    rw [meth p1] at h4 ⊢
    have h5 := He.meth_ok (He.ba h4).1
    rw [hn] at h5
    rw [hn]
    exact ⟨h5.at_, h5.fn⟩
  · obtain ⟨x, d, hx, hd, hp⟩ := ModT.at2_ok (show Q.okX 4 c f = true from h)
    obtain ⟨h1, h2, _, h4⟩ := def_ hd
    obtain ⟨p1, p2⟩ := He.ba hp
    have hn : d.name = "__len__" := of_decide_eq_true p2
    rw [h1, (cls hx).2.1]
    unfold DefT.ad
    unfold ModT.atB at h4
    rw [meth p1] at h4 ⊢
    have h5 := He.meth_ok (He.ba h4).1
    rw [hn] at h5
    rw [hn]
    exact ⟨h5.at_, h5.fn⟩
  · obtain ⟨x, d, hx, hd, hp⟩ := ModT.at2_ok (show Q.okX 5 c f = true from h)
    obtain ⟨h1, h2, _, h4⟩ := def_ hd
    obtain ⟨p1, p2⟩ := He.ba hp
    have hn : d.name = "__eq__" := of_decide_eq_true p2
    rw [h1, (cls hx).2.1]
    unfold DefT.ad
    unfold ModT.atB at h4
    rw [meth p1] at h4 ⊢
    have h5 := He.meth_ok (He.ba h4).1
    rw [hn] at h5
    rw [hn]
    exact ⟨h5.at_, h5.fn⟩
  · have hc : c < Q.cs.length := of_decide_eq_true (show Q.okX 6 c f = true from h)
    have hx : Q.cs[c]? = some Q.cs[c] := List.getElem?_eq_getElem hc
    obtain ⟨h1, h2, _⟩ := cls hx
    have hC := isC hx
    rw [h2] at hC ⊢
    exact ModT.iscB_ok hC (He.ba (He.ba (He.ba h1).2).2).2
  · have hd : Q.dfs[f]? = some d := hd
    obtain ⟨h1, h2, ⟨fd, F⟩, _⟩ := def_ hd
    refine ⟨ok.get hd, fd, ?_, (bd.get hd).bnd (fun _ => ?_) F⟩
    · rw [h1]
      exact FunD.less F
    · have o := ok.get hd
      unfold DefT.ok at o
      exact (scopeB_ok (Bool.and_eq_true_iff.mp (Bool.and_eq_true_iff.mp o).1).1).2
def rho0 : Rho := ⟨fun _ => none, fun _ => False⟩
theorem off_0 (a : Addr) : Off rho0 a := by
  refine ⟨fun n e => ?_, fun z => z⟩
  have e : (none : Option Addr) = some a := e
  cases e
theorem hr_0 {C : Cn} {H : Hp} : HR C rho0 H [] := by
  have no : ∀ {n : Nat} {a : Addr} {P : Prop}, rho0 n = some a → P := fun {n a P} e => by
    have e : (none : Option Addr) = some a := e
    cases e
  exact ⟨fun n hn => absurd hn (Nat.not_lt_zero _), fun n a e => no e, fun n m a e _ => no e, fun n a o e _ => no e, fun a z => False.elim z, fun n a e => no e⟩
/-- the law, from what the evaluator gives at every script -/
theorem law_of {l : PySem.W.OpenLaw} {n k f : Nat} {q : Program} {loose : List Str} {XP : (Str → Option Value) → Heap → Prop} {d : DefRec} {Q : ModT} {m : Nat}
    (hn : l.most = some n) (hn2 : n ≤ sizeLine) (hdf : d.params.defaults = []) (hr : Rm k callerA) (fine : Q.fine = true) (ok : AllD (fun d => d.ok Q.tab = true) Q.dfs) (bd : AllD DefT.Bd Q.dfs)
    (hf : ∃ d0, Q.dfs[f]? = some d0 ∧ d0.name = d.name ∧ eqAt d0.at_ .glo = true) (main : ∀ ns : List Int, ns.length ≤ n → ∃ h, (orc Q.sys k).call f [.scr ns] [] = some (.bl true, h)) :
    PySem.W.WalkO q loose XP (hookH m Q.facts Q.dds Q.gns Q.ex Q.gv).says l.row.toRowW d [] (fun f vs => PySem.call f vs) := by
  refine lawG_walk hn hn2 hdf hr fun w mg fa h ⟨K, hK, c⟩ hG hmg => ?_
  obtain ⟨d0, hd0, en, eg⟩ := hf
  have M0 := md_of hK hG c fine ok bd
  have hfa : fa = (Q.cn K w).fA f := by
    have e1 := (M0.isF f (by show (match Q.dfs[f]? with | some d => eqAt d.at_ .glo | none => false) = true; rw [hd0]; exact eg)).1
    have e2 : Q.tab.uN f = d.name := by rw [← en]; exact getD_of _ _ hd0
    rw [e2, hmg] at e1
    cases e1
    rfl
  refine ⟨K, rCal (Q.cn K w) ((orc Q.sys k).call f), hK, fun H a ns hns hS => ?_, fun base hKb hGb => ?_⟩
  · obtain ⟨h1, e⟩ := main ns hns
    refine ⟨rho0, [], [.scr ns], .bl true, h1, hr_0, .cons ?_ .nil, e, fun ρ' H' v x hr rv => ?_⟩
    · rcases hS with ⟨o, hS⟩ | ⟨o, its, nn, p1, p2, p3, p4, p5, p6⟩
      · exact .scr hS (off_0 a)
      · exact .scrK p1 p2 p3 p4 p5 p6
    · cases rv
      rfl
  · rw [hfa]
    exact lvl (P := l.prog) (base := base) (C := Q.cn K w) (md_of hKb hGb c fine ok bd) k f
end EV

set_option Elab.async false
set_option linter.all false
set_option maxRecDepth 100000
set_option maxHeartbeats 4000000
/-! ## the evaluator's own equations, for simp; comprehensions by their items -/
namespace EV
open PySem
section
variable {O : Orc} {σ : En} {h : MH}
@[simp] theorem val_v (f : En → MH → Option (D × MH)) : (val f).v = f := rfl
@[simp] theorem val_t (f : En → MH → Option (D × MH)) : (val f).t = truS f := rfl
@[simp] theorem val_w (f : En → MH → Option (D × MH)) : (val f).w = itS f := rfl
@[simp] theorem sems_nil : sems O [] = [] := rfl
@[simp] theorem sems_cons (m : ME) (ms : List ME) : sems O (m :: ms) = sem O m :: sems O ms := rfl
@[simp] theorem semo_none : semo O none = none := rfl
@[simp] theorem semo_some (m : ME) : semo O (some m) = some (sem O m) := rfl
@[simp] theorem v_var (i : Nat) : (sem O (.var i)).v σ h = match σ[i]? with
    | some (some d) => some (d, h)
    | _ => none := rfl
@[simp] theorem v_cst (d : D) : (sem O (.cst d)).v σ h = some (d, h) := rfl
@[simp] theorem v_glb (g : Nat) : (sem O (.glb g)).v σ h = some (O.glb g, h) := rfl
@[simp] theorem v_tup (es : List ME) : (sem O (.tup es)).v σ h = match evs (sems O es) σ h with
    | some (ds, h1) => if okL ds.length then some (.tup ds, h1) else none
    | none => none := rfl
@[simp] theorem v_lst (fz : Bool) (es : List ME) : (sem O (.lst fz es)).v σ h = match evs (sems O es) σ h with
    | some (ds, h1) => if okL ds.length then some (newL fz ds h1) else none
    | none => none := rfl
@[simp] theorem v_dsp (fz : Bool) (ks vs : List ME) : (sem O (.dsp fz ks vs)).v σ h = disp fz (sems O ks) (sems O vs) σ h := rfl
@[simp] theorem v_bin (op : Operator) (a b : ME) : (sem O (.bin op a b)).v σ h = two (sem O a) (sem O b) (binD op) σ h := rfl
@[simp] theorem v_neg (a : ME) : (sem O (.neg a)).v σ h = match (sem O a).v σ h with
    | some (.int i, h1) => some (.int (-i), h1)
    | _ => none := rfl
@[simp] theorem v_nt (a : ME) : (sem O (.nt a)).v σ h = match truS (sem O a).v σ h with
    | some (b, h1) => some (.bl (!b), h1)
    | none => none := rfl
@[simp] theorem t_nt (a : ME) : (sem O (.nt a)).t σ h = match (sem O a).t σ h with
    | some (b, h1) => some (!b, h1)
    | none => none := rfl
@[simp] theorem v_cmp (op : CmpOp) (a b : ME) : (sem O (.cmp op a b)).v σ h = two (sem O a) (sem O b) (cmpB op) σ h := rfl
@[simp] theorem v_chn (op op' : CmpOp) (a b c : ME) : (sem O (.chn op op' a b c)).v σ h = chain op op' (sem O a) (sem O b) (sem O c) σ h := rfl
@[simp] theorem v_and (es : List ME) : (sem O (.andE es)).v σ h = andV (sems O es) σ h := rfl
@[simp] theorem t_and (es : List ME) : (sem O (.andE es)).t σ h = andT (sems O es) σ h := rfl
@[simp] theorem v_or (es : List ME) : (sem O (.orE es)).v σ h = orV (sems O es) σ h := rfl
@[simp] theorem t_or (es : List ME) : (sem O (.orE es)).t σ h = orT (sems O es) σ h := rfl
@[simp] theorem v_ife (c a b : ME) : (sem O (.ife c a b)).v σ h = ifV (sem O c) (sem O a) (sem O b) σ h := rfl
@[simp] theorem v_idx (a b : ME) : (sem O (.idx a b)).v σ h = two (sem O a) (sem O b) idxD σ h := rfl
@[simp] theorem v_slc (a : ME) (lo hi : Option ME) : (sem O (.slc a lo hi)).v σ h = match (sem O a).v σ h with
    | some (x, h1) => match part (semo O lo) σ h1 with
      | some (l, h2) => match part (semo O hi) σ h2 with
        | some (u, h3) => (slcD x l u h3).map fun z => (z, h3)
        | none => none
      | none => none
    | none => none := rfl
@[simp] theorem v_rev (a : ME) : (sem O (.rev a)).v σ h = revS (sem O a).v σ h := rfl
@[simp] theorem v_isi (a : ME) (ts : List Ty) : (sem O (.isi a ts)).v σ h = isiS (sem O a).v ts σ h := rfl
@[simp] theorem v_call (f : Nat) (es : List ME) : (sem O (.call f es)).v σ h = if O.isF f then match evs (sems O es) σ h with
      | some (ds, h1) => O.call f ds h1
      | none => none
    else none := rfl
@[simp] theorem v_bif (b : Bi) (es : List ME) : (sem O (.bif b es)).v σ h = bifS b (sems O es) σ h := rfl
@[simp] theorem v_bim (m : Bm) (o : ME) (es : List ME) : (sem O (.bim m o es)).v σ h = bimS m (sem O o) (sems O es) σ h := rfl
@[simp] theorem t_var (i : Nat) : (sem O (.var i)).t σ h = truS (sem O (.var i)).v σ h := rfl
@[simp] theorem w_var (i : Nat) : (sem O (.var i)).w σ h = itS (sem O (.var i)).v σ h := rfl
@[simp] theorem t_cst (d : D) : (sem O (.cst d)).t σ h = truS (sem O (.cst d)).v σ h := rfl
@[simp] theorem w_cst (d : D) : (sem O (.cst d)).w σ h = itS (sem O (.cst d)).v σ h := rfl
@[simp] theorem t_glb (g : Nat) : (sem O (.glb g)).t σ h = truS (sem O (.glb g)).v σ h := rfl
@[simp] theorem w_glb (g : Nat) : (sem O (.glb g)).w σ h = itS (sem O (.glb g)).v σ h := rfl
@[simp] theorem t_tup (es : List ME) : (sem O (.tup es)).t σ h = truS (sem O (.tup es)).v σ h := rfl
@[simp] theorem w_tup (es : List ME) : (sem O (.tup es)).w σ h = itS (sem O (.tup es)).v σ h := rfl
@[simp] theorem t_lst (b : Bool) (es : List ME) : (sem O (.lst b es)).t σ h = truS (sem O (.lst b es)).v σ h := rfl
@[simp] theorem w_lst (b : Bool) (es : List ME) : (sem O (.lst b es)).w σ h = itS (sem O (.lst b es)).v σ h := rfl
@[simp] theorem t_dsp (b : Bool) (ks vs : List ME) : (sem O (.dsp b ks vs)).t σ h = truS (sem O (.dsp b ks vs)).v σ h := rfl
@[simp] theorem w_dsp (b : Bool) (ks vs : List ME) : (sem O (.dsp b ks vs)).w σ h = itS (sem O (.dsp b ks vs)).v σ h := rfl
@[simp] theorem t_bin (o : Operator) (a b : ME) : (sem O (.bin o a b)).t σ h = truS (sem O (.bin o a b)).v σ h := rfl
@[simp] theorem w_bin (o : Operator) (a b : ME) : (sem O (.bin o a b)).w σ h = itS (sem O (.bin o a b)).v σ h := rfl
@[simp] theorem t_neg (a : ME) : (sem O (.neg a)).t σ h = truS (sem O (.neg a)).v σ h := rfl
@[simp] theorem w_neg (a : ME) : (sem O (.neg a)).w σ h = itS (sem O (.neg a)).v σ h := rfl
@[simp] theorem t_cmp (o : CmpOp) (a b : ME) : (sem O (.cmp o a b)).t σ h = truS (sem O (.cmp o a b)).v σ h := rfl
@[simp] theorem w_cmp (o : CmpOp) (a b : ME) : (sem O (.cmp o a b)).w σ h = itS (sem O (.cmp o a b)).v σ h := rfl
@[simp] theorem t_chn (o o2 : CmpOp) (a b c : ME) : (sem O (.chn o o2 a b c)).t σ h = truS (sem O (.chn o o2 a b c)).v σ h := rfl
@[simp] theorem w_chn (o o2 : CmpOp) (a b c : ME) : (sem O (.chn o o2 a b c)).w σ h = itS (sem O (.chn o o2 a b c)).v σ h := rfl
@[simp] theorem t_idx (a b : ME) : (sem O (.idx a b)).t σ h = truS (sem O (.idx a b)).v σ h := rfl
@[simp] theorem w_idx (a b : ME) : (sem O (.idx a b)).w σ h = itS (sem O (.idx a b)).v σ h := rfl
@[simp] theorem t_slc (a : ME) (l u : Option ME) : (sem O (.slc a l u)).t σ h = truS (sem O (.slc a l u)).v σ h := rfl
@[simp] theorem w_slc (a : ME) (l u : Option ME) : (sem O (.slc a l u)).w σ h = itS (sem O (.slc a l u)).v σ h := rfl
@[simp] theorem t_rev (a : ME) : (sem O (.rev a)).t σ h = truS (sem O (.rev a)).v σ h := rfl
@[simp] theorem w_rev (a : ME) : (sem O (.rev a)).w σ h = itS (sem O (.rev a)).v σ h := rfl
@[simp] theorem t_isi (a : ME) (ts : List Ty) : (sem O (.isi a ts)).t σ h = truS (sem O (.isi a ts)).v σ h := rfl
@[simp] theorem w_isi (a : ME) (ts : List Ty) : (sem O (.isi a ts)).w σ h = itS (sem O (.isi a ts)).v σ h := rfl
@[simp] theorem t_call (f : Nat) (es : List ME) : (sem O (.call f es)).t σ h = truS (sem O (.call f es)).v σ h := rfl
@[simp] theorem w_call (f : Nat) (es : List ME) : (sem O (.call f es)).w σ h = itS (sem O (.call f es)).v σ h := rfl
@[simp] theorem t_bif (b : Bi) (es : List ME) : (sem O (.bif b es)).t σ h = truS (sem O (.bif b es)).v σ h := rfl
@[simp] theorem w_bif (b : Bi) (es : List ME) : (sem O (.bif b es)).w σ h = itS (sem O (.bif b es)).v σ h := rfl
@[simp] theorem t_bim (m : Bm) (o : ME) (es : List ME) : (sem O (.bim m o es)).t σ h = truS (sem O (.bim m o es)).v σ h := rfl
@[simp] theorem w_bim (m : Bm) (o : ME) (es : List ME) : (sem O (.bim m o es)).w σ h = itS (sem O (.bim m o es)).v σ h := rfl
@[simp] theorem t_lc (b : Bool) (g : MG) (it : ME) (ifs : List ME) (e : ME) : (sem O (.lc b g it ifs e)).t σ h = truS (sem O (.lc b g it ifs e)).v σ h := rfl
@[simp] theorem w_lc (b : Bool) (g : MG) (it : ME) (ifs : List ME) (e : ME) : (sem O (.lc b g it ifs e)).w σ h = itS (sem O (.lc b g it ifs e)).v σ h := rfl
@[simp] theorem w_rng1 (a : ME) : (sem O (.rng1 a)).w σ h = match (sem O a).v σ h with
    | some (.int n, h1) => if decide (-(2 ^ 62) ≤ n ∧ n < 2 ^ 62) then some ((List.range n.toNat).map fun (i : Nat) => D.int (0 + i), h1) else none
    | _ => none := rfl
@[simp] theorem x_asg (g : MG) (e : ME) : exec O (.asg g e) σ h = match (sem O e).v σ h with
    | some (x, h1) => match takeG g x h1 σ with
      | some σ1 => some (.nx, σ1, h1)
      | none => none
    | none => none := rfl
@[simp] theorem x_par (is : List Nat) (es : List ME) : exec O (.par is es) σ h = match evs (sems O es) σ h with
    | some (xs, h1) => match setAll is xs σ with
      | some σ1 => some (.nx, σ1, h1)
      | none => none
    | none => none := rfl
@[simp] theorem x_sset (o i e : ME) : exec O (.sset o i e) σ h = match (sem O e).v σ h with
    | some (v, h1) => match (sem O o).v σ h1 with
      | some (.adr n, h2) => match (sem O i).v σ h2 with
        | some (.int k, h3) => match h3[n]? with
          | some (.lst xs) => match ix xs.length k with
            | some j => some (.nx, σ, h3.set n (.lst (xs.set j v)))
            | none => none
          | _ => none
        | _ => none
      | _ => none
    | none => none := rfl
@[simp] theorem x_ex (e : ME) : exec O (.ex e) σ h = match (sem O e).v σ h with
    | some (_, h1) => some (.nx, σ, h1)
    | none => none := rfl
@[simp] theorem x_ret (e : ME) : exec O (.ret e) σ h = match (sem O e).v σ h with
    | some (x, h1) => some (.rt x, σ, h1)
    | none => none := rfl
@[simp] theorem x_ite (c : ME) (a b : List MS) : exec O (.ite c a b) σ h = match (sem O c).t σ h with
    | some (true, h1) => execs O a σ h1
    | some (false, h1) => execs O b σ h1
    | none => none := rfl
@[simp] theorem xs_nil : execs O [] σ h = some (.nx, σ, h) := rfl
@[simp] theorem xs_cons (s : MS) (ss : List MS) : execs O (s :: ss) σ h = match exec O s σ h with
    | some (.nx, σ1, h1) => execs O ss σ1 h1
    | r => r := rfl
@[simp] theorem evs_nil : evs [] σ h = some ([], h) := rfl
@[simp] theorem evs_cons (e : Sm) (es : List Sm) : evs (e :: es) σ h = match e.v σ h with
    | some (x, h1) => match evs es σ h1 with
      | some (xs, h2) => some (x :: xs, h2)
      | none => none
    | none => none := rfl
/-! comprehensions -/
theorem gather_map {f : D → MH → Option (Option D × MH)} {g : D → D} {h : MH} : ∀ {xs acc : List D}, (∀ x ∈ xs, f x h = some (some (g x), h)) → acc.length + xs.length ≤ 1000000 → gather f xs h acc = some (acc ++ xs.map g, h)
  | [], acc, _, _ => by simp [gather]
  | x :: xs, acc, hf, hl => by
    have hl' : acc.length + xs.length + 1 ≤ 1000000 := by simpa [Nat.add_assoc] using hl
    have ok : okL (acc.length + 1) = true := decide_eq_true (by omega)
    unfold gather
    rw [hf x List.mem_cons_self]
    dsimp only
    rw [if_pos ok, gather_map (fun y hy => hf y (List.mem_cons_of_mem _ hy)) (by simp; omega)]
    simp
theorem gather_filter {f : D → MH → Option (Option D × MH)} {g : D → D} {p : D → Bool} {h : MH} : ∀ {xs acc : List D}, (∀ x ∈ xs, f x h = some (if p x then some (g x) else none, h)) → acc.length + xs.length ≤ 1000000 → gather f xs h acc = some (acc ++ (xs.filter p).map g, h)
  | [], acc, _, _ => by simp [gather]
  | x :: xs, acc, hf, hl => by
    have hl' : acc.length + xs.length + 1 ≤ 1000000 := by simpa [Nat.add_assoc] using hl
    have ok : okL (acc.length + 1) = true := decide_eq_true (by omega)
    unfold gather
    rw [hf x List.mem_cons_self]
    by_cases hp : p x = true
    · rw [if_pos hp]
      dsimp only
      rw [if_pos ok, gather_filter (fun y hy => hf y (List.mem_cons_of_mem _ hy)) (by simp; omega), List.filter_cons_of_pos hp]
      simp
    · rw [if_neg hp]
      dsimp only
      rw [gather_filter (fun y hy => hf y (List.mem_cons_of_mem _ hy)) (by omega), List.filter_cons_of_neg hp]
theorem lc_map {g : MG} {it e : ME} {ifs : List ME} {xs : List D} {h1 : MH} {fz : Bool} (f : D → D) (hi : (sem O it).w σ h = some (xs, h1)) (hf : ∀ x ∈ xs, gath g (sems O ifs) (sem O e) (wipeE σ (slotsG g)) x h1 = some (some (f x), h1)) (hl : xs.length ≤ 1000000) :
    (sem O (.lc fz g it ifs e)).v σ h = some (newL fz (xs.map f) h1) := by
  show comp fz g (sem O it) (sems O ifs) (sem O e) σ h = _
  unfold comp
  rw [hi]
  dsimp only
  rw [gather_map hf (by simpa using hl)]
  rfl
theorem lc_filter {g : MG} {it e : ME} {ifs : List ME} {xs : List D} {h1 : MH} {fz : Bool} (f : D → D) (p : D → Bool) (hi : (sem O it).w σ h = some (xs, h1)) (hf : ∀ x ∈ xs, gath g (sems O ifs) (sem O e) (wipeE σ (slotsG g)) x h1 = some (if p x then some (f x) else none, h1)) (hl : xs.length ≤ 1000000) :
    (sem O (.lc fz g it ifs e)).v σ h = some (newL fz ((xs.filter p).map f) h1) := by
  show comp fz g (sem O it) (sems O ifs) (sem O e) σ h = _
  unfold comp
  rw [hi]
  dsimp only
  rw [gather_filter hf (by simpa using hl)]
  rfl
end
end EV

set_option Elab.async false
set_option linter.all false
set_option maxRecDepth 100000
set_option maxHeartbeats 4000000
/-! ## what must hold ahead, so that Q holds behind: rules by the forms of expressions and statements -/
namespace EV
open PySem
def W1 {α : Type} (r : Option α) (Q : α → Prop) : Prop := ∃ x, r = some x ∧ Q x
def W2 {α : Type} (r : Option (α × MH)) (Q : α → MH → Prop) : Prop := ∃ x h, r = some (x, h) ∧ Q x h
def W3 (r : Option (Fl × En × MH)) (Q : Fl → En → MH → Prop) : Prop := ∃ f σ h, r = some (f, σ, h) ∧ Q f σ h
theorem W1.mono {α : Type} {r : Option α} {Q Q' : α → Prop} (w : W1 r Q) (f : ∀ x, Q x → Q' x) : W1 r Q' := let ⟨x, e, q⟩ := w; ⟨x, e, f x q⟩
theorem W2.mono {α : Type} {r : Option (α × MH)} {Q Q' : α → MH → Prop} (w : W2 r Q) (f : ∀ x h, Q x h → Q' x h) : W2 r Q' := let ⟨x, h, e, q⟩ := w; ⟨x, h, e, f x h q⟩
theorem W3.mono {r : Option (Fl × En × MH)} {Q Q' : Fl → En → MH → Prop} (w : W3 r Q) (f : ∀ x σ h, Q x σ h → Q' x σ h) : W3 r Q' := let ⟨x, σ, h, e, q⟩ := w; ⟨x, σ, h, e, f x σ h q⟩
theorem W1.ret {α : Type} {x : α} {Q : α → Prop} (q : Q x) : W1 (some x) Q := ⟨x, rfl, q⟩
theorem W2.ret {α : Type} {x : α} {h : MH} {Q : α → MH → Prop} (q : Q x h) : W2 (some (x, h)) Q := ⟨x, h, rfl, q⟩
theorem W1.eq {α : Type} {r : Option α} {x : α} {Q : α → Prop} (e : r = some x) (q : Q x) : W1 r Q := ⟨x, e, q⟩
theorem W2.eq {α : Type} {r : Option (α × MH)} {x : α} {h : MH} {Q : α → MH → Prop} (e : r = some (x, h)) (q : Q x h) : W2 r Q := ⟨x, h, e, q⟩
theorem W3.eq {r : Option (Fl × En × MH)} {f : Fl} {σ : En} {h : MH} {Q : Fl → En → MH → Prop} (e : r = some (f, σ, h)) (q : Q f σ h) : W3 r Q := ⟨f, σ, h, e, q⟩
section
variable {O : Orc} {σ : En} {h : MH} {a b c e o i : ME} {es ms : List ME} {Q : D → MH → Prop} {QB : Bool → MH → Prop} {QL : List D → MH → Prop} {R : Fl → En → MH → Prop}
/-! ### values -/
theorem W2.var {n : Nat} {d : D} (he : σ[n]? = some (some d)) (q : Q d h) : W2 ((sem O (.var n)).v σ h) Q := .eq (by rw [v_var, he]) q
theorem W2.cst {d : D} (q : Q d h) : W2 ((sem O (.cst d)).v σ h) Q := .eq rfl q
theorem W2.glb {g : Nat} {d : D} (hg : O.glb g = d) (q : Q d h) : W2 ((sem O (.glb g)).v σ h) Q := .eq (by rw [v_glb, hg]) q
theorem W2.gcl {c : Nat} (q : Q (.cls c) h) : W2 ((sem O (.gcl c)).v σ h) Q := .eq rfl q
theorem W2.evnil (q : QL [] h) : W2 (evs (sems O []) σ h) QL := .eq rfl q
theorem W2.evcons (w : W2 ((sem O e).v σ h) fun d h1 => W2 (evs (sems O es) σ h1) fun ds h2 => QL (d :: ds) h2) : W2 (evs (sems O (e :: es)) σ h) QL := by
  obtain ⟨d, h1, e1, ds, h2, e2, q⟩ := w
  exact .eq (by rw [sems_cons, evs_cons, e1]; dsimp only; rw [e2]) q
theorem W2.tup (w : W2 (evs (sems O es) σ h) fun ds h1 => okL ds.length = true ∧ Q (.tup ds) h1) : W2 ((sem O (.tup es)).v σ h) Q := by
  obtain ⟨ds, h1, e1, hl, q⟩ := w
  exact .eq (by rw [v_tup, e1]; dsimp only; rw [if_pos hl]) q
theorem W2.lstT (w : W2 (evs (sems O es) σ h) fun ds h1 => okL ds.length = true ∧ Q (.lst ds) h1) : W2 ((sem O (.lst true es)).v σ h) Q := by
  obtain ⟨ds, h1, e1, hl, q⟩ := w
  exact .eq (by rw [v_lst, e1]; dsimp only; rw [if_pos hl]; rfl) q
theorem W2.lstF (w : W2 (evs (sems O es) σ h) fun ds h1 => okL ds.length = true ∧ Q (.adr h1.length) (h1 ++ [.lst ds])) : W2 ((sem O (.lst false es)).v σ h) Q := by
  obtain ⟨ds, h1, e1, hl, q⟩ := w
  exact .eq (by rw [v_lst, e1]; dsimp only; rw [if_pos hl]; rfl) q
theorem W2.two {f : D → D → MH → Option D} (w : W2 ((sem O a).v σ h) fun x h1 => W2 ((sem O b).v σ h1) fun y h2 => W1 (f x y h2) fun z => Q z h2) : W2 (two (sem O a) (sem O b) f σ h) Q := by
  obtain ⟨x, h1, e1, y, h2, e2, z, e3, q⟩ := w
  exact .eq (by unfold EV.two; rw [e1]; dsimp only; rw [e2]; dsimp only; rw [e3]; rfl) q
theorem W2.bin {op : Operator} (w : W2 ((sem O a).v σ h) fun x h1 => W2 ((sem O b).v σ h1) fun y h2 => W1 (binD op x y h2) fun z => Q z h2) : W2 ((sem O (.bin op a b)).v σ h) Q := W2.two w
theorem W2.idx (w : W2 ((sem O a).v σ h) fun x h1 => W2 ((sem O b).v σ h1) fun y h2 => W1 (idxD x y h2) fun z => Q z h2) : W2 ((sem O (.idx a b)).v σ h) Q := W2.two w
theorem W2.cmp {op : CmpOp} (w : W2 ((sem O a).v σ h) fun x h1 => W2 ((sem O b).v σ h1) fun y h2 => W1 (cmpD op x y h2) fun z => Q (.bl z) h2) : W2 ((sem O (.cmp op a b)).v σ h) Q := by
  obtain ⟨x, h1, e1, y, h2, e2, z, e3, q⟩ := w
  exact W2.two ⟨x, h1, e1, y, h2, e2, .bl z, by unfold cmpB; rw [e3]; rfl, q⟩
theorem W2.cmpT {op : CmpOp} (w : W2 ((sem O a).v σ h) fun x h1 => W2 ((sem O b).v σ h1) fun y h2 => W1 (cmpD op x y h2) fun z => QB z h2) : W2 ((sem O (.cmp op a b)).t σ h) QB := by
  obtain ⟨x, h2, e, q⟩ := W2.cmp (Q := fun d h => ∃ z, d = .bl z ∧ QB z h) (w.mono fun x h1 w1 => w1.mono fun y h2 w2 => w2.mono fun z q => ⟨z, rfl, q⟩)
  obtain ⟨z, rfl, q⟩ := q
  exact .eq (by rw [t_cmp]; unfold truS; rw [e]; rfl) q
theorem W2.neg (w : W2 ((sem O a).v σ h) fun x h1 => ∃ n, x = .int n ∧ Q (.int (-n)) h1) : W2 ((sem O (.neg a)).v σ h) Q := by
  obtain ⟨x, h1, e1, n, rfl, q⟩ := w
  exact .eq (by rw [v_neg, e1]) q
theorem W2.ntT (w : W2 ((sem O a).t σ h) fun x h1 => QB (!x) h1) : W2 ((sem O (.nt a)).t σ h) QB := by
  obtain ⟨x, h1, e1, q⟩ := w
  exact .eq (by rw [t_nt, e1]) q
theorem W2.truS {v : En → MH → Option (D × MH)} (w : W2 (v σ h) fun x h1 => W1 (truD h1 x) fun z => QB z h1) : W2 (EV.truS v σ h) QB := by
  obtain ⟨x, h1, e1, z, e2, q⟩ := w
  exact .eq (by unfold EV.truS; rw [e1]; dsimp only; rw [e2]; rfl) q
theorem W2.nt (w : W2 ((sem O a).v σ h) fun x h1 => W1 (truD h1 x) fun z => Q (.bl (!z)) h1) : W2 ((sem O (.nt a)).v σ h) Q := by
  obtain ⟨x, h1, e1, z, e2, q⟩ := w
  exact .eq (by rw [v_nt]; unfold EV.truS; rw [e1]; dsimp only; rw [e2]; rfl) q
/-- truth by the value -/
theorem W2.tV (hm : (sem O a).t = EV.truS (sem O a).v) (w : W2 ((sem O a).v σ h) fun x h1 => W1 (truD h1 x) fun z => QB z h1) : W2 ((sem O a).t σ h) QB := by
  rw [hm]
  exact W2.truS w
theorem W1.truB {z : Bool} {P : Bool → Prop} (q : P z) : W1 (truD h (.bl z)) P := ⟨z, rfl, q⟩
/-- items by the value -/
theorem W2.wV (hm : (sem O a).w = itS (sem O a).v) (w : W2 ((sem O a).v σ h) fun x h1 => W1 (itD x) fun z => QL z h1) : W2 ((sem O a).w σ h) QL := by
  obtain ⟨x, h1, e1, z, e2, q⟩ := w
  exact .eq (by rw [hm]; unfold itS; rw [e1]; dsimp only; rw [e2]; rfl) q
theorem W1.itL {xs : List D} {P : List D → Prop} (q : P xs) : W1 (itD (.lst xs)) P := ⟨xs, rfl, q⟩
theorem W1.itT {xs : List D} {P : List D → Prop} (q : P xs) : W1 (itD (.tup xs)) P := ⟨xs, rfl, q⟩
theorem W2.rng1 (w : W2 ((sem O a).v σ h) fun x h1 => ∃ n, x = .int n ∧ -(2 ^ 62) ≤ n ∧ n < 2 ^ 62 ∧ QL ((List.range n.toNat).map fun (i : Nat) => D.int (0 + i)) h1) : W2 ((sem O (.rng1 a)).w σ h) QL := by
  obtain ⟨x, h1, e1, n, rfl, l1, l2, q⟩ := w
  exact .eq (by rw [w_rng1, e1]; dsimp only; rw [if_pos (decide_eq_true ⟨l1, l2⟩)]) q
/-- and, or as tests -/
theorem W2.and1T (w : W2 ((sem O a).t σ h) QB) : W2 ((sem O (.andE [a])).t σ h) QB := w
theorem W2.andT (w : W2 ((sem O a).t σ h) fun x h1 => (x = true → W2 ((sem O (.andE (b :: es))).t σ h1) QB) ∧ (x = false → QB false h1)) : W2 ((sem O (.andE (a :: b :: es))).t σ h) QB := by
  obtain ⟨x, h1, e1, q1, q2⟩ := w
  have e0 : (sem O (.andE (a :: b :: es))).t σ h = match (sem O a).t σ h with
    | some (true, h1) => (sem O (.andE (b :: es))).t σ h1
    | some (false, h1) => some (false, h1)
    | none => none := rfl
  cases x with
  | true =>
    obtain ⟨y, h2, e2, q⟩ := q1 rfl
    exact .eq (by rw [e0, e1]; exact e2) q
  | false => exact .eq (by rw [e0, e1]) (q2 rfl)
theorem W2.or1T (w : W2 ((sem O a).t σ h) QB) : W2 ((sem O (.orE [a])).t σ h) QB := w
theorem W2.orT (w : W2 ((sem O a).t σ h) fun x h1 => (x = false → W2 ((sem O (.orE (b :: es))).t σ h1) QB) ∧ (x = true → QB true h1)) : W2 ((sem O (.orE (a :: b :: es))).t σ h) QB := by
  obtain ⟨x, h1, e1, q1, q2⟩ := w
  have e0 : (sem O (.orE (a :: b :: es))).t σ h = match (sem O a).t σ h with
    | some (false, h1) => (sem O (.orE (b :: es))).t σ h1
    | some (true, h1) => some (true, h1)
    | none => none := rfl
  cases x with
  | false =>
    obtain ⟨y, h2, e2, q⟩ := q1 rfl
    exact .eq (by rw [e0, e1]; exact e2) q
  | true => exact .eq (by rw [e0, e1]) (q2 rfl)
theorem W2.and1 (w : W2 ((sem O a).v σ h) Q) : W2 ((sem O (.andE [a])).v σ h) Q := w
theorem W2.and (w : W2 ((sem O a).v σ h) fun x h1 => ∃ z, x = .bl z ∧ (z = true → W2 ((sem O (.andE (b :: es))).v σ h1) Q) ∧ (z = false → Q (.bl false) h1)) : W2 ((sem O (.andE (a :: b :: es))).v σ h) Q := by
  obtain ⟨x, h1, e1, z, rfl, q1, q2⟩ := w
  have e0 : (sem O (.andE (a :: b :: es))).v σ h = match (sem O a).v σ h with
    | some (.bl true, h1) => (sem O (.andE (b :: es))).v σ h1
    | some (.bl false, h1) => some (.bl false, h1)
    | _ => none := rfl
  cases z with
  | true =>
    obtain ⟨y, h2, e2, q⟩ := q1 rfl
    exact .eq (by rw [e0, e1]; exact e2) q
  | false => exact .eq (by rw [e0, e1]) (q2 rfl)
theorem W2.ife (w : W2 ((sem O c).t σ h) fun x h1 => (x = true → W2 ((sem O a).v σ h1) Q) ∧ (x = false → W2 ((sem O b).v σ h1) Q)) : W2 ((sem O (.ife c a b)).v σ h) Q := by
  obtain ⟨x, h1, e1, q1, q2⟩ := w
  cases x with
  | true =>
    obtain ⟨y, h2, e2, q⟩ := q1 rfl
    exact .eq (by rw [v_ife]; unfold ifV; rw [e1]; exact e2) q
  | false =>
    obtain ⟨y, h2, e2, q⟩ := q2 rfl
    exact .eq (by rw [v_ife]; unfold ifV; rw [e1]; exact e2) q
theorem W2.pNone {P : Option Int → MH → Prop} (q : P none h) : W2 (part (semo O none) σ h) P := .eq rfl q
theorem W2.pSome {P : Option Int → MH → Prop} (w : W2 ((sem O a).v σ h) fun x h1 => ∃ n, x = .int n ∧ P (some n) h1) : W2 (part (semo O (some a)) σ h) P := by
  obtain ⟨x, h1, e1, n, rfl, q⟩ := w
  exact .eq (by rw [semo_some]; unfold part; dsimp only; rw [e1]) q
theorem W2.slc {lo hi : Option ME} (w : W2 ((sem O a).v σ h) fun x h1 => W2 (part (semo O lo) σ h1) fun l h2 => W2 (part (semo O hi) σ h2) fun u h3 => W1 (slcD x l u h3) fun z => Q z h3) : W2 ((sem O (.slc a lo hi)).v σ h) Q := by
  obtain ⟨x, h1, e1, l, h2, e2, u, h3, e3, z, e4, q⟩ := w
  exact .eq (by rw [v_slc, e1]; dsimp only; rw [e2]; dsimp only; rw [e3]; dsimp only; rw [e4]; rfl) q
theorem W2.isi {ts : List Ty} (w : W2 ((sem O a).v σ h) fun x h1 => W1 (isTs h1 x ts) fun z => Q (.bl z) h1) : W2 ((sem O (.isi a ts)).v σ h) Q := by
  obtain ⟨x, h1, e1, z, e2, q⟩ := w
  exact .eq (by rw [v_isi]; unfold isiS; rw [e1]; dsimp only; rw [e2]; rfl) q
theorem W2.call {f : Nat} (hf : O.isF f = true) (w : W2 (evs (sems O es) σ h) fun ds h1 => W2 (O.call f ds h1) Q) : W2 ((sem O (.call f es)).v σ h) Q := by
  obtain ⟨ds, h1, e1, x, h2, e2, q⟩ := w
  exact .eq (by rw [v_call, if_pos hf, e1]; exact e2) q
theorem W2.bif {f : Bi} (w : W2 (evs (sems O es) σ h) fun ds h1 => W2 (bifD f ds h1) Q) : W2 ((sem O (.bif f es)).v σ h) Q := by
  obtain ⟨ds, h1, e1, x, h2, e2, q⟩ := w
  exact .eq (by rw [v_bif]; unfold bifS; rw [e1]; exact e2) q
theorem W2.bim {f : Bm} (w : W2 ((sem O o).v σ h) fun x h1 => tyD f x h1 = true ∧ W2 (evs (sems O es) σ h1) fun ds h2 => W2 (bimD f x ds h2) Q) : W2 ((sem O (.bim f o es)).v σ h) Q := by
  obtain ⟨x, h1, e1, ht, ds, h2, e2, y, h3, e3, q⟩ := w
  exact .eq (by rw [v_bim]; unfold bimS; rw [e1]; dsimp only; rw [if_pos ht, e2]; exact e3) q
theorem W2.att {f : Nat} (w : W2 ((sem O a).v σ h) fun x h1 => ∃ c fs v, insD h1 x = some (c, fs) ∧ (O.okF c f && fs.all fun q => O.okF c q.1) = true ∧ fs.lookup f = some v ∧ Q v h1) : W2 ((sem O (.att a f)).v σ h) Q := by
  obtain ⟨x, h1, e1, c, fs, v, e2, e3, e4, q⟩ := w
  have e0 : (sem O (.att a f)).v σ h = match (sem O a).v σ h with
    | some (x, h1) => match insD h1 x with
      | some (c, fs) => if O.okF c f && fs.all (fun q => O.okF c q.1) then (fs.lookup f).map fun v => (v, h1) else none
      | none => none
    | none => none := rfl
  exact .eq (by rw [e0, e1]; dsimp only; rw [e2]; dsimp only; rw [if_pos e3, e4]; rfl) q
theorem W2.meth {f : Nat} (w : W2 ((sem O o).v σ h) fun x h1 => ∃ c fs, insD h1 x = some (c, fs) ∧ (O.okM c f && fs.all fun q => O.okF c q.1) = true ∧ W2 (evs (sems O es) σ h1) fun ds h2 => W2 (O.call f (x :: ds) h2) Q) : W2 ((sem O (.meth f o es)).v σ h) Q := by
  obtain ⟨x, h1, e1, c, fs, e2, e3, ds, h2, e4, y, h3, e5, q⟩ := w
  have e0 : (sem O (.meth f o es)).v σ h = match (sem O o).v σ h with
    | some (x, h1) => match insD h1 x with
      | some (c, fs) => if O.okM c f && fs.all (fun q => O.okF c q.1) then match evs (sems O es) σ h1 with
          | some (ds, h2) => O.call f (x :: ds) h2
          | none => none
        else none
      | none => none
    | none => none := rfl
  exact .eq (by rw [e0, e1]; dsimp only; rw [e2]; dsimp only; rw [if_pos e3, e4]; exact e5) q
theorem W2.kmt {f : Nat} (w : W2 ((sem O o).v σ h) fun x h1 => ∃ c fs, insD h1 x = some (c, fs) ∧ (O.okM c f && fs.all fun q => O.okF c q.1) = true ∧ W2 (evs (sems O es) σ h1) fun ds h2 => W2 ((sem O e).v σ h2) fun y h3 => W2 (O.callK f (x :: (ds ++ [y])) h3) Q) : W2 ((sem O (.kmt f o es e)).v σ h) Q := by
  obtain ⟨x, h1, e1, c, fs, e2, e3, ds, h2, e4, y, h3, e5, z, h4, e6, q⟩ := w
  have e0 : (sem O (.kmt f o es e)).v σ h = match (sem O o).v σ h with
    | some (x, h1) => match insD h1 x with
      | some (c, fs) => if O.okM c f && fs.all (fun q => O.okF c q.1) then match evs (sems O es) σ h1 with
          | some (ds, h2) => match (sem O e).v σ h2 with
            | some (y, h3) => O.callK f (x :: (ds ++ [y])) h3
            | none => none
          | none => none
        else none
      | none => none
    | none => none := rfl
  exact .eq (by rw [e0, e1]; dsimp only; rw [e2]; dsimp only; rw [if_pos e3, e4]; dsimp only; rw [e5]; exact e6) q
theorem W2.atO {ok : Nat → Bool} {cal : Spec} (w : W2 ((sem O o).v σ h) fun x h1 => ∃ c fs, insD h1 x = some (c, fs) ∧ ok c = true ∧ W2 (cal [x] h1) Q) : W2 (EV.atO ok cal (sem O o) σ h) Q := by
  obtain ⟨x, h1, e1, c, fs, e2, e3, y, h2, e4, q⟩ := w
  exact .eq (by unfold EV.atO; rw [e1]; dsimp only; rw [e2]; dsimp only; rw [if_pos e3, e4]) q
theorem W2.prp {f : Nat} (w : W2 ((sem O o).v σ h) fun x h1 => ∃ c fs, insD h1 x = some (c, fs) ∧ O.okX 1 c f = true ∧ W2 (O.call f [x] h1) Q) : W2 ((sem O (.prp o f)).v σ h) Q := W2.atO w
theorem W2.sob {f : Nat} (w : W2 ((sem O o).v σ h) fun x h1 => ∃ c fs, insD h1 x = some (c, fs) ∧ O.okX 3 c f = true ∧ W2 (O.call f [x] h1) fun d h2 => ∃ s, d = .str s ∧ Q d h2) : W2 ((sem O (.sob o f)).v σ h) Q := by
  obtain ⟨x, h1, e1, s, rfl, q⟩ := W2.atO w
  have e0 : (sem O (.sob o f)).v σ h = strS (EV.atO (fun c => O.okX 3 c f) (O.call f) (sem O o) σ h) := rfl
  exact .eq (by rw [e0, e1]; rfl) q
theorem W2.lno {f : Nat} (w : W2 ((sem O o).v σ h) fun x h1 => ∃ c fs, insD h1 x = some (c, fs) ∧ O.okX 4 c f = true ∧ W2 (O.call f [x] h1) fun d h2 => ∃ n, d = .int n ∧ 0 ≤ n ∧ n < 2 ^ 62 ∧ Q d h2) : W2 ((sem O (.lno o f)).v σ h) Q := by
  obtain ⟨x, h1, e1, n, rfl, n0, n1, q⟩ := W2.atO w
  have e0 : (sem O (.lno o f)).v σ h = intS (EV.atO (fun c => O.okX 4 c f) (O.call f) (sem O o) σ h) := rfl
  exact .eq (by rw [e0, e1]; exact if_pos (decide_eq_true ⟨n0, n1⟩)) q
theorem W2.eqo {f : Nat} (w : W2 ((sem O a).v σ h) fun x h1 => W2 ((sem O b).v σ h1) fun y h2 => ∃ c fs gs, insD h2 x = some (c, fs) ∧ insD h2 y = some (c, gs) ∧ O.okX 5 c f = true ∧ W2 (O.call f [x, y] h2) fun d h3 => ∃ z, d = .bl z ∧ Q d h3) : W2 ((sem O (.eqo f a b)).v σ h) Q := by
  obtain ⟨x, h1, e1, y, h2, e2, c, fs, gs, e3, e4, e5, d, h3, e6, z, rfl, q⟩ := w
  have e0 : (sem O (.eqo f a b)).v σ h = eqoS (fun c => O.okX 5 c f) (O.call f) (sem O a) (sem O b) σ h := rfl
  exact .eq (by rw [e0]; unfold eqoS; rw [e1]; dsimp only; rw [e2]; dsimp only; rw [e3, e4]; dsimp only; rw [if_pos (Bool.and_eq_true_iff.mpr ⟨decide_eq_true rfl, e5⟩), e6]) q
theorem W2.isc {c : Nat} (w : W2 ((sem O a).v σ h) fun x h1 => ∃ fs, insD h1 x = some (c, fs) ∧ O.okX 6 c 0 = true ∧ Q (.bl true) h1) : W2 ((sem O (.isc a c)).v σ h) Q := by
  obtain ⟨x, h1, e1, fs, e2, e3, q⟩ := w
  have e0 : (sem O (.isc a c)).v σ h = iscS (fun c => O.okX 6 c 0) c (sem O a) σ h := rfl
  exact .eq (by rw [e0]; unfold iscS; rw [e1]; dsimp only; rw [if_pos e3, e2]; dsimp only; rw [if_pos rfl]) q
theorem W2.cmt {c f : Nat} (hx : O.okX 2 c f = true) (w : W2 (evs (sems O es) σ h) fun ds h1 => W2 (O.call f (.cls c :: ds) h1) Q) : W2 ((sem O (.cmt c f es)).v σ h) Q := by
  obtain ⟨ds, h1, e1, y, h2, e2, q⟩ := w
  have e0 : (sem O (.cmt c f es)).v σ h = if O.okX 2 c f then match evs (sems O es) σ h with
      | some (ds, h1) => O.call f (.cls c :: ds) h1
      | none => none
    else none := rfl
  exact .eq (by rw [e0, if_pos hx, e1]; exact e2) q
/-- an object made -/
theorem W2.mkR {c : Nat} {cal : Spec} {ds : List D} (w : W2 (cal (.adr h.length :: ds) (h ++ [.ins c []])) fun d h1 => d = .non ∧ Q (.adr h.length) h1) : W2 (EV.mkR c cal ds h) Q := by
  obtain ⟨d, h1, e1, rfl, q⟩ := w
  exact .eq (by unfold EV.mkR; rw [e1]) q
theorem W2.mk {c f : Nat} (hx : O.okX 0 c f = true) (w : W2 (evs (sems O es) σ h) fun ds h1 => W2 (EV.mkR c (O.call f) ds h1) Q) : W2 ((sem O (.mk c f es)).v σ h) Q := by
  obtain ⟨ds, h1, e1, y, h2, e2, q⟩ := w
  have e0 : (sem O (.mk c f es)).v σ h = if O.okX 0 c f then match evs (sems O es) σ h with
      | some (ds, h1) => EV.mkR c (O.call f) ds h1
      | none => none
    else none := rfl
  exact .eq (by rw [e0, if_pos hx, e1]; exact e2) q
theorem W2.mk0 {c f : Nat} (hx : O.okX 0 c f = true) (w : W2 (EV.mkR c (O.call f) [] h) Q) : W2 ((sem O (.mk0 c f)).v σ h) Q := by
  obtain ⟨y, h2, e2, q⟩ := w
  have e0 : (sem O (.mk0 c f)).v σ h = if O.okX 0 c f then EV.mkR c (O.call f) [] h else none := rfl
  exact .eq (by rw [e0, if_pos hx]; exact e2) q
theorem W2.mkS {c f : Nat} (hx : O.okX 0 c f = true) (w : W2 ((sem O o).v σ h) fun x h1 => x = .cls c ∧ W2 ((sem O e).v σ h1) fun d h2 => ∃ xs, seqD h2 d = some xs ∧ W2 (EV.mkR c (O.call f) xs h2) Q) : W2 ((sem O (.mkS c f o e)).v σ h) Q := by
  obtain ⟨x, h1, e1, rfl, d, h2, e2, xs, e3, y, h3, e4, q⟩ := w
  have e0 : (sem O (.mkS c f o e)).v σ h = if O.okX 0 c f then mkSS c (O.call f) (sem O o) (sem O e) σ h else none := rfl
  exact .eq (by rw [e0, if_pos hx]; unfold mkSS; rw [e1]; dsimp only; rw [if_pos rfl, e2]; dsimp only; rw [e3]; exact e4) q
theorem W2.frz (w : W2 ((sem O e).v σ h) fun d h1 => W2 (fin true h.length (d, h1)) Q) : W2 ((sem O (.frz e)).v σ h) Q := by
  obtain ⟨d, h1, e1, y, h2, e2, q⟩ := w
  have e0 : (sem O (.frz e)).v σ h = match (sem O e).v σ h with
    | some r => fin true h.length r
    | none => none := rfl
  exact .eq (by rw [e0, e1]; exact e2) q
/-! ### operations of values -/
section
variable {m n : Int} {P : D → Prop} {PB : Bool → Prop}
theorem W1.add (q : P (.int (m + n))) : W1 (binD .Add (.int m) (.int n) h) P := .eq rfl q
theorem W1.sub (q : P (.int (m - n))) : W1 (binD .Sub (.int m) (.int n) h) P := .eq rfl q
theorem W1.mod (h0 : 0 < n) (q : P (.int (m % n))) : W1 (binD .Mod (.int m) (.int n) h) P := .eq (if_pos (decide_eq_true h0)) q
theorem W1.lt (q : PB (decide (m < n))) : W1 (cmpD .Lt (.int m) (.int n) h) PB := .eq rfl q
theorem W1.le (q : PB (decide (m ≤ n))) : W1 (cmpD .LtE (.int m) (.int n) h) PB := .eq rfl q
theorem W1.gt (q : PB (decide (n < m))) : W1 (cmpD .Gt (.int m) (.int n) h) PB := .eq rfl q
theorem W1.ge (q : PB (decide (n ≤ m))) : W1 (cmpD .GtE (.int m) (.int n) h) PB := .eq rfl q
theorem W1.eqI (q : PB (m == n)) : W1 (cmpD .Eq (.int m) (.int n) h) PB := .eq rfl q
theorem W1.neI (q : PB (m != n)) : W1 (cmpD .NotEq (.int m) (.int n) h) PB := .eq rfl q
theorem W1.eqS {x y : S} (q : PB (x == y)) : W1 (cmpD .Eq (.str x) (.str y) h) PB := .eq rfl q
theorem W1.neS {x y : S} (q : PB (x != y)) : W1 (cmpD .NotEq (.str x) (.str y) h) PB := .eq rfl q
theorem pl_rep {n : Nat} {x : D} (hx : plain n x = true) : isRep x = false ∧ ∀ h, thaw h x = x := by
  cases x <;> first | exact ⟨rfl, fun _ => rfl⟩ | (cases n <;> cases hx)
theorem W1.eqP {x y : D} (hx : plain 60 x = true) (hy : plain 60 y = true) (q : PB (deq x y)) : W1 (cmpD .Eq x y h) PB := by
  refine .eq ?_ q
  show (if isRep x || isRep y then repEq x y else if plain 60 (thaw h x) && plain 60 (thaw h y) then some (deq (thaw h x) (thaw h y)) else none) = _
  rw [(pl_rep hx).1, (pl_rep hy).1, (pl_rep hx).2, (pl_rep hy).2, hx, hy]
  rfl
theorem W1.neP {x y : D} (hx : plain 60 x = true) (hy : plain 60 y = true) (q : PB (!deq x y)) : W1 (cmpD .NotEq x y h) PB := by
  refine .eq ?_ q
  show (if isRep x || isRep y then (repEq x y).map (!·) else if plain 60 (thaw h x) && plain 60 (thaw h y) then some (!deq (thaw h x) (thaw h y)) else none) = _
  rw [(pl_rep hx).1, (pl_rep hy).1, (pl_rep hx).2, (pl_rep hy).2, hx, hy]
  rfl
theorem W1.isN {x : D} (q : PB (isNonD x)) : W1 (cmpD .Is x .non h) PB := .eq (by cases x <;> rfl) q
theorem W1.notN {x : D} (q : PB (!isNonD x)) : W1 (cmpD .IsNot x .non h) PB := .eq (by cases x <;> rfl) q
theorem W1.isB {x y : Bool} (q : PB (x == y)) : W1 (cmpD .Is (.bl x) (.bl y) h) PB := .eq rfl q
end
/-! ### statements -/
/-- what stands behind a statement -/
def Kn (O : Orc) (ss : List MS) (R : Fl → En → MH → Prop) (f : Fl) (σ : En) (h : MH) : Prop := match f with
  | .nx => W3 (execs O ss σ h) R
  | f => R f σ h
theorem Kn.nx {ss : List MS} (w : W3 (execs O ss σ h) R) : Kn O ss R .nx σ h := w
theorem Kn.rt {ss : List MS} {d : D} (w : R (.rt d) σ h) : Kn O ss R (.rt d) σ h := w
theorem W3.nil (q : R .nx σ h) : W3 (execs O [] σ h) R := .eq rfl q
theorem W3.cons {s : MS} {ss : List MS} (w : W3 (exec O s σ h) (Kn O ss R)) : W3 (execs O (s :: ss) σ h) R := by
  obtain ⟨f, σ1, h1, e, q⟩ := w
  cases f with
  | nx =>
    obtain ⟨f2, σ2, h2, e2, q2⟩ := q
    exact .eq (by rw [xs_cons, e]; exact e2) q2
  | bk => exact .eq (by rw [xs_cons, e]) q
  | ct => exact .eq (by rw [xs_cons, e]) q
  | rt d => exact .eq (by rw [xs_cons, e]) q
theorem W3.asg {j : Nat} (w : W2 ((sem O e).v σ h) fun d h1 => R .nx (σ.set j (some d)) h1) : W3 (exec O (.asg (.nm j) e) σ h) R := by
  obtain ⟨d, h1, e1, q⟩ := w
  exact .eq (by rw [x_asg, e1]; rfl) q
theorem W3.asgT {js : List Nat} (w : W2 ((sem O e).v σ h) fun d h1 => ∃ xs σ1, seqD h1 d = some xs ∧ xs.length = js.length ∧ setAll js xs σ = some σ1 ∧ R .nx σ1 h1) : W3 (exec O (.asg (.tp js) e) σ h) R := by
  obtain ⟨d, h1, e1, xs, σ1, e2, hl, e3, q⟩ := w
  exact .eq (by rw [x_asg, e1]; dsimp only; unfold takeG; dsimp only; rw [e2]; dsimp only; rw [if_pos hl, e3]) q
theorem W3.par {js : List Nat} (w : W2 (evs (sems O es) σ h) fun ds h1 => ∃ σ1, setAll js ds σ = some σ1 ∧ R .nx σ1 h1) : W3 (exec O (.par js es) σ h) R := by
  obtain ⟨d, h1, e1, σ1, e2, q⟩ := w
  exact .eq (by rw [x_par, e1]; dsimp only; rw [e2]) q
theorem W3.ex (w : W2 ((sem O e).v σ h) fun d h1 => R .nx σ h1) : W3 (exec O (.ex e) σ h) R := by
  obtain ⟨d, h1, e1, q⟩ := w
  exact .eq (by rw [x_ex, e1]) q
theorem W3.ret (w : W2 ((sem O e).v σ h) fun d h1 => R (.rt d) σ h1) : W3 (exec O (.ret e) σ h) R := by
  obtain ⟨d, h1, e1, q⟩ := w
  exact .eq (by rw [x_ret, e1]) q
theorem W3.pas (q : R .nx σ h) : W3 (exec O .pas σ h) R := .eq rfl q
theorem W3.ite {A B : List MS} (w : W2 ((sem O c).t σ h) fun x h1 => (x = true → W3 (execs O A σ h1) R) ∧ (x = false → W3 (execs O B σ h1) R)) : W3 (exec O (.ite c A B) σ h) R := by
  obtain ⟨x, h1, e1, q1, q2⟩ := w
  cases x with
  | true =>
    obtain ⟨f, σ2, h2, e2, q⟩ := q1 rfl
    exact .eq (by rw [x_ite, e1]; exact e2) q
  | false =>
    obtain ⟨f, σ2, h2, e2, q⟩ := q2 rfl
    exact .eq (by rw [x_ite, e1]; exact e2) q
theorem W3.fset {f : Nat} (w : W2 ((sem O e).v σ h) fun v h1 => W2 ((sem O o).v σ h1) fun x h2 => ∃ n c fs, x = .adr n ∧ h2[n]? = some (.ins c fs) ∧ fs.length < 1000 ∧ (O.okF c f && fs.all fun q => O.okF c q.1) = true ∧ R .nx σ (h2.set n (.ins c (putFd f v fs)))) : W3 (exec O (.fset o f e) σ h) R := by
  obtain ⟨v, h1, e1, x, h2, e2, n, c, fs, rfl, e3, hl, e4, q⟩ := w
  have e0 : exec O (.fset o f e) σ h = match (sem O e).v σ h with
    | some (v, h1) => match (sem O o).v σ h1 with
      | some (.adr n, h2) => match h2[n]? with
        | some (.ins c fs) => if decide (fs.length < 1000) && (O.okF c f && fs.all (fun q => O.okF c q.1)) then some (.nx, σ, h2.set n (.ins c (putFd f v fs))) else none
        | _ => none
      | _ => none
    | none => none := rfl
  exact .eq (by rw [e0, e1]; dsimp only; rw [e2]; dsimp only; rw [e3]; dsimp only; rw [decide_eq_true hl, Bool.true_and, if_pos e4]) q
/-- a turn of a walk -/
def turn (O : Orc) (g : MG) (body : List MS) : D → En → MH → Option (Fl × En × MH) := fun x σ h => match takeG g x h σ with
  | some σ1 => execs O body σ1 h
  | none => none
theorem W3.for {g : MG} {body : List MS} (w : W2 ((sem O i).w σ h) fun xs h1 => W3 (loop (turn O g body) xs σ h1) R) : W3 (exec O (.forS g i body) σ h) R := by
  obtain ⟨xs, h1, e1, f, σ2, h2, e2, q⟩ := w
  have e0 : exec O (.forS g i body) σ h = match (sem O i).w σ h with
    | some (xs, h1) => loop (turn O g body) xs σ h1
    | none => none := rfl
  exact .eq (by rw [e0, e1]; exact e2) q
theorem W3.forE {g : MG} {body : List MS} (w : W2 ((sem O (.enm i)).w σ h) fun xs h1 => W3 (loop (turn O g body) xs σ h1) R) : W3 (exec O (.forE g i body) σ h) R := by
  obtain ⟨xs, h1, e1, f, σ2, h2, e2, q⟩ := w
  have e0 : exec O (.forE g i body) σ h = match (sem O (.enm i)).w σ h with
    | some (xs, h1) => loop (turn O g body) xs σ h1
    | none => none := rfl
  exact .eq (by rw [e0, e1]; exact e2) q
theorem W2.enm (w : W2 ((sem O a).v σ h) fun x h1 => ∃ xs, x = .tup xs ∧ QL (xs.zipIdx.map fun p => .tup [.int p.2, p.1]) h1) : W2 ((sem O (.enm a)).w σ h) QL := by
  obtain ⟨x, h1, e1, xs, rfl, q⟩ := w
  have e0 : (sem O (.enm a)).w σ h = match (sem O a).v σ h with
    | some (.tup xs, h1) => some (xs.zipIdx.map fun p => .tup [.int p.2, p.1], h1)
    | _ => none := rfl
  exact .eq (by rw [e0, e1]) q
theorem W3.turnN {j : Nat} {body : List MS} {x : D} (w : W3 (execs O body (σ.set j (some x)) h) R) : W3 (turn O (.nm j) body x σ h) R := w
/-- a walk by an invariant of the turn's number -/
theorem W3.loop {f : D → En → MH → Option (Fl × En × MH)} (I : Nat → En → MH → Prop) {xs : List D} (h0 : I 0 σ h) (hs : ∀ (j : Nat) (x : D) (σ : En) (h : MH), xs[j]? = some x → I j σ h → W3 (f x σ h) fun fl σ1 h1 => match fl with
    | .nx => I (j + 1) σ1 h1
    | .ct => I (j + 1) σ1 h1
    | .bk => R .nx σ1 h1
    | .rt d => R (.rt d) σ1 h1) (hd : ∀ σ1 h1, I xs.length σ1 h1 → R .nx σ1 h1) : W3 (loop f xs σ h) R := by
  have key : ∀ (ys : List D) (j : Nat), j ≤ xs.length → xs.drop j = ys → ∀ σ h, I j σ h → W3 (EV.loop f ys σ h) R := by
    intro ys
    induction ys with
    | nil =>
      intro j hle hj σ h hI
      have hl : xs.length ≤ j := by
        have := congrArg List.length hj
        rw [List.length_drop, List.length_nil] at this
        omega
      rw [Nat.le_antisymm hle hl] at hI
      exact .eq rfl (hd σ h hI)
    | cons y ys ih =>
      intro j hle hj σ h hI
      have hy : xs[j]? = some y := by
        have := congrArg (fun l => l[0]?) hj
        simpa using this
      have hlt : j < xs.length := (List.getElem?_eq_some_iff.mp hy).1
      have hr : xs.drop (j + 1) = ys := by
        have := congrArg List.tail hj
        simpa [List.tail_drop] using this
      obtain ⟨fl, σ1, h1, e, q⟩ := hs j y σ h hy hI
      cases fl with
      | nx =>
        obtain ⟨f2, σ2, h2, e2, q2⟩ := ih (j + 1) hlt hr σ1 h1 q
        exact .eq (by unfold EV.loop; rw [e]; exact e2) q2
      | ct =>
        obtain ⟨f2, σ2, h2, e2, q2⟩ := ih (j + 1) hlt hr σ1 h1 q
        exact .eq (by unfold EV.loop; rw [e]; exact e2) q2
      | bk => exact .eq (by unfold EV.loop; rw [e]) q
      | rt d => exact .eq (by unfold EV.loop; rw [e]) q
  exact key xs 0 (Nat.zero_le _) rfl σ h h0
/-- a def's body, to its end -/
theorem W2.run {N N0 : Nat} {sh : Bool} {body : List MS} {args : List D} (w : W3 (execs O body (args.map some ++ List.replicate (N - args.length) none) h) fun f _ h1 => match f with
    | .rt d => W2 (fin sh N0 (d, h1)) Q
    | .nx => W2 (fin sh N0 (.non, h1)) Q
    | _ => False) : W2 ((runD O N body args h).bind (fin sh N0)) Q := by
  obtain ⟨f, σ1, h1, e, q⟩ := w
  unfold runD
  rw [e]
  cases f with
  | rt d => exact q
  | nx => exact q
  | bk => exact q.elim
  | ct => exact q.elim
theorem W2.finF {N0 : Nat} {d : D} (q : Q d h) : W2 (fin false N0 (d, h)) Q := .eq rfl q
end
end EV

set_option Elab.async false
set_option linter.all false
set_option maxRecDepth 100000
set_option maxHeartbeats 0
namespace EV
open PySem PySem.Spec PyProof.Rows L2
def top (i : Nat) : Stmt := PySem.Challenge.pw_sharedrows_k64_sheets_edited.main.body.getD i (.Pass ⟨0, 0, 0, 0⟩)
def inC (s : Stmt) (j : Nat) : Stmt := match s with
  | .ClassDef _ _ _ b _ _ _ _ _ _ _ => b.getD j (.Pass ⟨0, 0, 0, 0⟩)
  | _ => .Pass ⟨0, 0, 0, 0⟩
/-- is_name(thing) -/
def b_is_name : List MS := [
  .ite (.orE [(.nt (.isi (.var 0) [.str])), (.nt (.chn .LtE .LtE (.cst (.int 1)) (.bif .len [(.var 0)]) (.glb 1)))]) [.ret (.cst (.bl false))] [],
  .ret (.andE [(.cmp .NotIn (.var 0) (.glb 2)), (.bif .all [(.lc true (.nm 1) (.var 0) [] (.cmp .In (.var 1) (.glb 0)))])])]
def d_is_name : DefT := ⟨top 25, "is_name", ["thing", "sign"], 1, b_is_name, false, "is_name", .glo, false, false⟩
/-- is_plain(thing) -/
def b_is_plain : List MS := [
  .ite (.orE [(.nt (.isi (.var 0) [.tuple])), (.cmp .Eq (.bif .len [(.var 0)]) (.cst (.int 0))), (.nt (.isi (.idx (.var 0) (.cst (.int 0))) [.str])), (.cmp .NotIn (.idx (.var 0) (.cst (.int 0))) (.glb 10))]) [.ret (.cst (.bl false))] [],
  .asg (.nm 1) (.bin .Add (.bin .Add (.cst (.int 1)) (.bif .len [(.idx (.glb 10) (.idx (.var 0) (.cst (.int 0))))])) (.bif .len [(.idx (.glb 11) (.idx (.var 0) (.cst (.int 0))))])),
  .ret (.andE [(.cmp .Eq (.bif .len [(.var 0)]) (.var 1)), (.bif .all [(.lc true (.nm 2) (.slc (.var 0) (some (.cst (.int 1))) none) [] (.call 0 [(.var 2)]))])])]
def d_is_plain : DefT := ⟨top 26, "is_plain", ["thing", "many", "part"], 1, b_is_plain, false, "is_plain", .glo, false, false⟩
/-- is_guarded(thing) -/
def b_is_guarded : List MS := [
  .ite (.orE [(.nt (.isi (.var 0) [.tuple])), (.cmp .NotEq (.bif .len [(.var 0)]) (.cst (.int 4))), (.nt (.isi (.idx (.var 0) (.cst (.int 0))) [.str])), (.cmp .NotIn (.idx (.var 0) (.cst (.int 0))) (.glb 12))]) [.ret (.cst (.bl false))] [],
  .ret (.andE [(.call 0 [(.idx (.var 0) (.cst (.int 1)))]), (.call 0 [(.idx (.var 0) (.cst (.int 2)))]), (.call 1 [(.idx (.var 0) (.cst (.int 3)))])])]
def d_is_guarded : DefT := ⟨top 27, "is_guarded", ["thing"], 1, b_is_guarded, false, "is_guarded", .glo, false, false⟩
/-- is_row(thing) -/
def b_is_row : List MS := [
  .ret (.orE [(.call 1 [(.var 0)]), (.call 2 [(.var 0)])])]
def d_is_row : DefT := ⟨top 28, "is_row", ["thing"], 1, b_is_row, false, "is_row", .glo, false, false⟩
/-- _law_source(_law_script, _law_place) -/
def b__law_source : List MS := [
  .asg (.nm 2) (.ife (.cmp .Lt (.var 1) (.bif .len [(.var 0)])) (.idx (.var 0) (.var 1)) (.cst (.int 0))),
  .asg (.nm 3) (.ife (.cmp .GtE (.bif .abs [(.var 2)]) (.bin .Pow (.cst (.int 10)) (.cst (.int 18)))) (.bif .abs [(.var 2)]) (.cst (.int 0))),
  .asg (.nm 4) (.bin .Add (.bin .Add (.bin .Add (.bin .Mod (.var 2) (.cst (.int 2147483629))) (.bin .Mult (.bin .Mult (.cst (.int 5003)) (.var 1)) (.var 1))) (.bin .Mult (.cst (.int 97)) (.var 1))) (.cst (.int 3))),
  .ret (.lst false [(.var 3), (.bin .Mod (.bin .Pow (.var 4) (.cst (.int 3))) (.cst (.int 2147483587))), (.cst (.int 0))])]
def d__law_source : DefT := ⟨top 41, "_law_source", ["_law_script", "_law_place", "_law_cell", "_law_large", "_law_mixed"], 2, b__law_source, false, "_law_source", .glo, false, false⟩
/-- _law_draw(_law_source_here, _law_many) -/
def b__law_draw : List MS := [
  .ite (.cmp .Gt (.idx (.var 0) (.cst (.int 0))) (.cst (.int 0))) [.asg (.nm 3) (.bin .Mod (.idx (.var 0) (.cst (.int 0))) (.var 1)), .sset (.var 0) (.cst (.int 0)) (.bin .FloorDiv (.idx (.var 0) (.cst (.int 0))) (.var 1)), .ret (.var 3)] [],
  .sset (.var 0) (.cst (.int 2)) (.bin .Add (.idx (.var 0) (.cst (.int 2))) (.cst (.int 1))),
  .asg (.nm 2) (.idx (.var 0) (.cst (.int 2))),
  .sset (.var 0) (.cst (.int 1)) (.bin .Mod (.bin .Add (.bin .Add (.bin .Mult (.idx (.var 0) (.cst (.int 1))) (.cst (.int 69621))) (.bin .Mult (.bin .Mult (.cst (.int 40009)) (.var 2)) (.var 2))) (.cst (.int 7))) (.cst (.int 2147483629))),
  .ret (.bin .Mod (.bin .Mod (.bin .Pow (.bin .FloorDiv (.idx (.var 0) (.cst (.int 1))) (.cst (.int 32))) (.cst (.int 3))) (.cst (.int 2147483579))) (.var 1))]
def d__law_draw : DefT := ⟨top 42, "_law_draw", ["_law_source_here", "_law_many", "_law_turn", "_law_digit"], 2, b__law_draw, false, "_law_draw", .glo, false, false⟩
/-- _law_names(_law_source_here, _law_many) -/
def b__law_names : List MS := [
  .asg (.nm 2) (.cst (.str [97, 98, 99, 100, 101, 102, 103, 104, 105, 106, 107, 108, 109, 110, 111, 112, 113, 114, 115, 116, 117, 118, 119, 120, 121, 122])),
  .asg (.tp [7, 8]) (.tup [(.idx (.lst true [(.cst (.int 0)), (.cst (.int 0)), (.cst (.int 1)), (.cst (.int 2)), (.cst (.int 7))]) (.call 5 [(.var 0), (.cst (.int 5))])), (.call 5 [(.var 0), (.cst (.int 26))])]),
  .asg (.nm 3) (.cst (.str [])),
  .forS (.nm 4) (.rng1 (.var 7)) [.asg (.nm 3) (.bin .Add (.var 3) (.idx (.var 2) (.call 5 [(.var 0), (.cst (.int 26))])))],
  .asg (.nm 5) (.call 5 [(.var 0), (.bin .Add (.var 7) (.cst (.int 1)))]),
  .asg (.nm 6) (.lc true (.nm 9) (.rng1 (.var 1)) [] (.bin .Add (.bin .Add (.slc (.var 3) none (some (.var 5))) (.idx (.var 2) (.bin .Mod (.bin .Add (.var 8) (.bin .Mult (.cst (.int 3)) (.var 9))) (.cst (.int 26))))) (.slc (.var 3) (some (.var 5)) none))),
  .ite (.bif .any [(.lc true (.nm 10) (.var 6) [] (.cmp .In (.var 10) (.tup [(.cst (.str [110, 101, 119])), (.cst (.str [110, 111, 110, 101])), (.cst (.str [105, 102])), (.cst (.str [105, 115])), (.cst (.str [110, 111, 116])), (.cst (.str [115, 101, 108, 102])), (.cst (.str [99, 108, 115]))])))]) [.asg (.nm 6) (.lc true (.nm 10) (.var 6) [] (.bin .Add (.var 10) (.cst (.str [113]))))] [],
  .ret (.var 6)]
def d__law_names : DefT := ⟨top 43, "_law_names", ["_law_source_here", "_law_many", "_law_letters", "_law_stem", "_law_turn", "_law_spot", "_law_found", "_law_size", "_law_first", "_law_k", "_law_name"], 2, b__law_names, false, "_law_names", .glo, false, false⟩
/-- _law_plain(_law_source_here, _law_names_here, _law_fields) -/
def b__law_plain : List MS := [
  .par [3, 4] [(.idx (.var 1) (.call 5 [(.var 0), (.bif .len [(.var 1)])])), (.idx (.var 1) (.call 5 [(.var 0), (.bif .len [(.var 1)])]))],
  .par [5, 6] [(.idx (.var 2) (.call 5 [(.var 0), (.bif .len [(.var 2)])])), (.call 5 [(.var 0), (.cst (.int 8))])],
  .ite (.cmp .Lt (.var 6) (.cst (.int 2))) [.ret (.tup [(.cst (.str [108, 111, 97, 100])), (.var 3), (.var 4), (.var 5)])] [],
  .ite (.cmp .Lt (.var 6) (.cst (.int 4))) [.ret (.tup [(.cst (.str [115, 116, 111, 114, 101])), (.var 3), (.var 5), (.var 4)])] [],
  .ite (.cmp .Lt (.var 6) (.cst (.int 6))) [.ret (.tup [(.cst (.str [99, 111, 112, 121])), (.var 3), (.var 4)])] [],
  .ret (.idx (.lst true [(.tup [(.cst (.str [110, 101, 119])), (.var 3)]), (.tup [(.cst (.str [110, 111, 110, 101])), (.var 3)])]) (.bin .Sub (.var 6) (.cst (.int 6))))]
def d__law_plain : DefT := ⟨top 44, "_law_plain", ["_law_source_here", "_law_names_here", "_law_fields", "_law_one", "_law_other", "_law_field", "_law_way"], 3, b__law_plain, false, "_law_plain", .glo, false, false⟩
/-- _law_rows(_law_source_here, _law_names_here, _law_fields, _law_many, _law_guards) -/
def b__law_rows : List MS := [
  .asg (.nm 5) (.lst false []),
  .forS (.nm 6) (.rng1 (.var 3)) [.asg (.nm 7) (.call 7 [(.var 0), (.var 1), (.var 2)]), .ite (.andE [(.cmp .Gt (.var 4) (.cst (.int 0))), (.cmp .Eq (.call 5 [(.var 0), (.cst (.int 4))]) (.cst (.int 0)))]) [.asg (.nm 4) (.bin .Sub (.var 4) (.cst (.int 1))), .par [8, 9] [(.idx (.var 1) (.call 5 [(.var 0), (.bif .len [(.var 1)])])), (.idx (.var 1) (.call 5 [(.var 0), (.bif .len [(.var 1)])]))], .asg (.nm 7) (.tup [(.idx (.lst true [(.cst (.str [115, 97, 109, 101])), (.cst (.str [111, 116, 104, 101, 114]))]) (.call 5 [(.var 0), (.cst (.int 2))])), (.var 8), (.var 9), (.var 7)])] [], .ex (.bim .append (.var 5) [(.var 7)])],
  .ret (.var 5)]
def d__law_rows : DefT := ⟨top 45, "_law_rows", ["_law_source_here", "_law_names_here", "_law_fields", "_law_many", "_law_guards", "_law_found", "_law_turn", "_law_row", "_law_one", "_law_other"], 5, b__law_rows, true, "_law_rows", .glo, false, false⟩
/-- names_in(row) -/
def b_names_in : List MS := [
  .ite (.cmp .In (.idx (.var 0) (.cst (.int 0))) (.glb 12)) [.ret (.bin .Add (.lst true [(.idx (.var 0) (.cst (.int 1))), (.idx (.var 0) (.cst (.int 2)))]) (.call 9 [(.idx (.var 0) (.cst (.int 3)))]))] [],
  .ret (.lc true (.nm 1) (.idx (.glb 10) (.idx (.var 0) (.cst (.int 0)))) [] (.idx (.var 0) (.var 1)))]
def d_names_in : DefT := ⟨top 29, "names_in", ["row", "at"], 1, b_names_in, false, "names_in", .glo, false, false⟩
/-- fields_in(row) -/
def b_fields_in : List MS := [
  .ite (.cmp .In (.idx (.var 0) (.cst (.int 0))) (.glb 12)) [.ret (.call 10 [(.idx (.var 0) (.cst (.int 3)))])] [],
  .ret (.lc true (.nm 1) (.idx (.glb 11) (.idx (.var 0) (.cst (.int 0)))) [] (.idx (.var 0) (.var 1)))]
def d_fields_in : DefT := ⟨top 30, "fields_in", ["row", "at"], 1, b_fields_in, false, "fields_in", .glo, false, false⟩
/-- is_index(thing, many) -/
def b_is_index : List MS := [
  .ret (.andE [(.isi (.var 0) [.int]), (.nt (.isi (.var 0) [.bool])), (.chn .LtE .Lt (.cst (.int 0)) (.var 0) (.var 1))])]
def d_is_index : DefT := ⟨top 35, "is_index", ["thing", "many"], 2, b_is_index, false, "is_index", .glo, false, false⟩
/-- look_rows(rows) -/
def b_look_rows : List MS := [
  .forE (.tp [1, 2]) (.var 0) [.ite (.nt (.call 3 [(.var 2)])) [.nev] []],
  .ite (.cmp .Gt (.bif .len [(.var 0)]) (.glb 13)) [.nev] [],
  .ite (.cmp .Gt (.bif .len [(.lc true (.nm 2) (.var 0) [(.cmp .In (.idx (.var 2) (.cst (.int 0))) (.glb 12))] (.var 2))]) (.glb 14)) [.nev] [],
  .ite (.cmp .Gt (.lsc (.nm 2) (.var 0) (.nm 3) (.call 9 [(.var 2)]) (.var 3)) (.glb 15)) [.nev] [],
  .ite (.cmp .Gt (.lsc (.nm 2) (.var 0) (.nm 4) (.call 10 [(.var 2)]) (.var 4)) (.glb 16)) [.nev] []]
def d_look_rows : DefT := ⟨top 36, "look_rows", ["rows", "at", "row", "name", "field"], 1, b_look_rows, false, "look_rows", .glo, false, false⟩
/-- _law_edit(_law_source_here, _law_rows_here, _law_names_here, _law_fields) -/
def b__law_edit : List MS := [
  .par [6, 7] [(.call 5 [(.var 0), (.cst (.int 5))]), (.bif .len [(.var 1)])],
  .asg (.nm 4) (.call 7 [(.var 0), (.var 2), (.var 3)]),
  .ite (.orE [(.cmp .Lt (.var 6) (.cst (.int 2))), (.cmp .Eq (.var 1) (.lst true []))]) [.asg (.nm 8) (.idx (.lst true [(.cst .non), (.call 5 [(.var 0), (.bin .Add (.var 7) (.cst (.int 1)))])]) (.call 5 [(.var 0), (.cst (.int 2))])), .asg (.nm 9) (.ife (.cmp .Is (.var 8) (.cst .non)) (.var 7) (.var 8)), .ret (.tup [(.cst (.str [112, 117, 116])), (.var 4), (.var 8), (.bin .Add (.bin .Add (.slc (.var 1) none (some (.var 9))) (.lst true [(.var 4)])) (.slc (.var 1) (some (.var 9)) none))])] [],
  .par [10, 11] [(.call 5 [(.var 0), (.var 7)]), (.call 5 [(.var 0), (.var 7)])],
  .asg (.nm 5) (.bin .Add (.slc (.var 1) none (some (.var 10))) (.slc (.var 1) (some (.bin .Add (.var 10) (.cst (.int 1)))) none)),
  .ite (.cmp .Eq (.var 6) (.cst (.int 2))) [.ret (.tup [(.cst (.str [114, 101, 109, 111, 118, 101])), (.var 10), (.cst .non), (.var 5)])] [],
  .ite (.cmp .Eq (.var 6) (.cst (.int 3))) [.ret (.tup [(.cst (.str [109, 111, 118, 101])), (.var 10), (.var 11), (.bin .Add (.bin .Add (.slc (.var 5) none (some (.var 11))) (.lst true [(.idx (.var 1) (.var 10))])) (.slc (.var 5) (some (.var 11)) none))])] [],
  .ret (.tup [(.cst (.str [115, 101, 116])), (.cst .non), (.cst .non), (.bin .Add (.bin .Mult (.lst true [(.var 4)]) (.bif .intOf [(.cmp .Eq (.bin .Mod (.var 10) (.cst (.int 2))) (.cst (.int 0)))])) (.slc (.var 5) none (some (.cst (.int 5)))))])]
def d__law_edit : DefT := ⟨top 46, "_law_edit", ["_law_source_here", "_law_rows_here", "_law_names_here", "_law_fields", "_law_row", "_law_less", "_law_way", "_law_many", "_law_where", "_law_spot", "_law_one", "_law_two"], 4, b__law_edit, false, "_law_edit", .glo, false, false⟩
/-- _law_edited(_law_sheet, _law_edit_here) -/
def b__law_edited : List MS := [
  .asg (.tp [2, 3, 4, 5]) (.var 1),
  .ite (.cmp .Eq (.var 2) (.cst (.str [112, 117, 116]))) [.ret (.ife (.cmp .Is (.var 4) (.cst .non)) (.meth 30 (.var 0) [(.var 3)]) (.kmt 30 (.var 0) [(.var 3)] (.var 4)))] [],
  .ite (.cmp .Eq (.var 2) (.cst (.str [114, 101, 109, 111, 118, 101]))) [.ret (.meth 31 (.var 0) [(.var 3)])] [],
  .ite (.cmp .Eq (.var 2) (.cst (.str [109, 111, 118, 101]))) [.ret (.meth 33 (.var 0) [(.var 3), (.var 4)])] [],
  .ex (.meth 25 (.var 0) [(.idx (.lst true [(.bif .tuple [(.var 5)]), (.bif (.list true) [(.var 5)])]) (.bin .Mod (.bif .len [(.var 5)]) (.cst (.int 2))))]),
  .ret (.cst .non)]
def d__law_edited : DefT := ⟨top 47, "_law_edited", ["_law_sheet", "_law_edit_here", "_law_kind", "_law_first", "_law_second", "_law_after"], 2, b__law_edited, false, "_law_edited", .glo, false, false⟩
/-- _law_right(_law_sheet, _law_rows_here) -/
def b__law_right : List MS := [
  .ite (.orE [(.cmp .NotEq (.prp (.var 0) 24) (.bif .tuple [(.var 1)])), (.cmp .NotEq (.lno (.var 0) 26) (.bif .len [(.var 1)])), (.nt (.isc (.prp (.var 0) 23) 0))]) [.ret (.cst (.bl false))] [],
  .ret (.cmp .Is (.eqo 20 (.prp (.var 0) 23) (.cmt 0 18 [(.var 1)])) (.cst (.bl true)))]
def d__law_right : DefT := ⟨top 48, "_law_right", ["_law_sheet", "_law_rows_here"], 2, b__law_right, false, "_law_right", .glo, false, false⟩
/-- law(_law_script) -/
def b_law : List MS := [
  .forS (.nm 1) (.rng1 (.bif .max [(.cst (.int 1)), (.bif .min [(.cst (.int 6)), (.bif .len [(.var 0)])])])) [.asg (.nm 2) (.call 4 [(.var 0), (.var 1)]), .par [6, 7] [(.call 6 [(.var 2), (.bin .Add (.cst (.int 1)) (.call 5 [(.var 2), (.cst (.int 4))]))]), (.call 6 [(.var 2), (.cst (.int 2))])], .asg (.nm 3) (.call 8 [(.var 2), (.var 6), (.var 7), (.cst (.int 3)), (.cst (.int 0))]), .asg (.tp [8, 9]) (.idx (.lst true [(.tup [(.mk0 1 22), (.lst true [])]), (.tup [(.mk 1 22 [(.idx (.var 3) (.cst (.int 0))), (.idx (.var 3) (.cst (.int 1))), (.idx (.var 3) (.cst (.int 2)))]), (.var 3)])]) (.call 5 [(.var 2), (.cst (.int 2))])), .ite (.nt (.call 15 [(.var 8), (.var 9)])) [.ret (.cst (.bl false))] [], .forS (.nm 4) (.rng1 (.cst (.int 15))) [.asg (.nm 10) (.call 13 [(.var 2), (.var 9), (.var 6), (.var 7)]), .ite (.cmp .LtE (.bif .len [(.idx (.var 10) (.cst (.int 3)))]) (.cst (.int 6))) [.asg (.nm 11) (.prp (.var 8) 23), .asg (.nm 12) (.call 14 [(.var 8), (.var 10)]), .ite (.orE [(.cmp .NotEq (.var 12) (.ife (.cmp .Eq (.idx (.var 10) (.cst (.int 0))) (.cst (.str [114, 101, 109, 111, 118, 101]))) (.idx (.var 9) (.idx (.var 10) (.cst (.int 1)))) (.cst .non))), (.cmp .NotEq (.prp (.var 11) 19) (.bif .tuple [(.var 9)]))]) [.ret (.cst (.bl false))] [], .asg (.nm 9) (.idx (.var 10) (.cst (.int 3)))] [], .ite (.nt (.call 15 [(.var 8), (.var 9)])) [.ret (.cst (.bl false))] []], .asg (.nm 5) (.bif (.list false) [(.var 9)]), .ex (.meth 25 (.var 8) [(.var 5)]), .ex (.bim .append (.var 5) [(.tup [(.cst (.str [110, 101, 119])), (.cst (.str [97]))])]), .ite (.nt (.call 15 [(.var 8), (.var 9)])) [.ret (.cst (.bl false))] []],
  .ret (.cst (.bl true))]
def d_law : DefT := ⟨top 49, "law", ["_law_script", "_law_place", "_law_source_here", "_law_three", "_law_turn", "_law_passed", "_law_names_here", "_law_fields", "_law_sheet", "_law_rows_here", "_law_edit_here", "_law_before", "_law_told"], 1, b_law, true, "law", .glo, false, false⟩
/-- Program.__init__(self, rows) -/
def b_Program___init__ : List MS := [
  .ex (.call 12 [(.var 1)]),
  .fset (.var 0) 0 (.bif .tuple [(.var 1)])]
def d_Program___init__ : DefT := ⟨inC (top 37) 1, "__init__", ["self", "rows"], 2, b_Program___init__, false, "Program.__init__", (.meth "Program"), true, false⟩
/-- Program.of(cls, rows) -/
def b_Program_of : List MS := [
  .ret (.frz (.mkS 0 17 (.var 0) (.var 1)))]
def d_Program_of : DefT := ⟨inC (top 37) 2, "of", ["cls", "rows"], 2, b_Program_of, false, "Program.of", (.cmt "Program"), false, false⟩
/-- Program.rows(self) -/
def b_Program_rows : List MS := [
  .ret (.att (.var 0) 0)]
def d_Program_rows : DefT := ⟨inC (top 37) 4, "rows", ["self"], 1, b_Program_rows, false, "Program.rows", (.prp "Program"), false, false⟩
/-- Program.__eq__(self, other) -/
def b_Program___eq__ : List MS := [
  .ret (.andE [(.isc (.var 1) 0), (.cmp .Eq (.att (.var 0) 0) (.att (.var 1) 0))])]
def d_Program___eq__ : DefT := ⟨inC (top 37) 7, "__eq__", ["self", "other"], 2, b_Program___eq__, false, "Program.__eq__", (.meth "Program"), false, false⟩
/-- Program.__len__(self) -/
def b_Program___len__ : List MS := [
  .ret (.bif .len [(.att (.var 0) 0)])]
def d_Program___len__ : DefT := ⟨inC (top 37) 8, "__len__", ["self"], 1, b_Program___len__, false, "Program.__len__", (.meth "Program"), false, false⟩
/-- Sheet.__init__(self, rows) -/
def b_Sheet___init__ : List MS := [
  .fset (.var 0) 1 (.frz (.mkS 0 17 (.gcl 0) (.var 1))),
  .fset (.var 0) 2 (.lst false [])]
def d_Sheet___init__ : DefT := ⟨inC (top 39) 0, "__init__", ["self", "rows"], 2, b_Sheet___init__, false, "Sheet.__init__", (.meth "Sheet"), true, false⟩
/-- Sheet.program(self) -/
def b_Sheet_program : List MS := [
  .ret (.att (.var 0) 1)]
def d_Sheet_program : DefT := ⟨inC (top 39) 1, "program", ["self"], 1, b_Sheet_program, false, "Sheet.program", (.prp "Sheet"), false, false⟩
/-- Sheet.rows(self) -/
def b_Sheet_rows : List MS := [
  .ret (.prp (.att (.var 0) 1) 19)]
def d_Sheet_rows : DefT := ⟨inC (top 39) 2, "rows", ["self"], 1, b_Sheet_rows, false, "Sheet.rows", (.prp "Sheet"), false, false⟩
/-- Sheet.assign(self, rows) -/
def b_Sheet_assign : List MS := [
  .ite (.nt (.isi (.var 1) [.list, .tuple])) [.nev] [],
  .ex (.meth 28 (.var 0) [(.var 1)])]
def d_Sheet_assign : DefT := ⟨inC (top 39) 3, "assign", ["self", "rows"], 2, b_Sheet_assign, false, "Sheet.assign", (.meth "Sheet"), false, false⟩
/-- Sheet.__len__(self) -/
def b_Sheet___len__ : List MS := [
  .ret (.lno (.att (.var 0) 1) 21)]
def d_Sheet___len__ : DefT := ⟨inC (top 39) 5, "__len__", ["self"], 1, b_Sheet___len__, false, "Sheet.__len__", (.meth "Sheet"), false, false⟩
/-- Sheet.look(self, program) -/
def b_Sheet_look : List MS := [
  .pas]
def d_Sheet_look : DefT := ⟨inC (top 39) 6, "look", ["self", "program"], 2, b_Sheet_look, false, "Sheet.look", (.meth "Sheet"), false, false⟩
/-- Sheet.edited(self, rows) -/
def b_Sheet_edited : List MS := [
  .asg (.nm 2) (.frz (.mkS 0 17 (.gcl 0) (.var 1))),
  .ex (.meth 27 (.var 0) [(.var 2)]),
  .ex (.bim .append (.att (.var 0) 2) [(.att (.var 0) 1)]),
  .fset (.var 0) 1 (.var 2)]
def d_Sheet_edited : DefT := ⟨inC (top 39) 7, "edited", ["self", "rows", "program"], 2, b_Sheet_edited, false, "Sheet.edited", (.meth "Sheet"), false, false⟩
/-- Sheet.look_index(self, index, many) -/
def b_Sheet_look_index : List MS := [
  .ite (.nt (.call 11 [(.var 1), (.var 2)])) [.nev] []]
def d_Sheet_look_index : DefT := ⟨inC (top 39) 8, "look_index", ["self", "index", "many"], 3, b_Sheet_look_index, false, "Sheet.look_index", (.meth "Sheet"), false, false⟩
/-- Sheet.put(self, row, at) -/
def b_Sheet_put : List MS := [
  .asg (.nm 3) (.bif (.list false) [(.prp (.var 0) 24)]),
  .ite (.cmp .IsNot (.var 2) (.cst .non)) [.ex (.meth 29 (.var 0) [(.var 2), (.bin .Add (.bif .len [(.var 3)]) (.cst (.int 1)))])] [],
  .ite (.nt (.call 3 [(.var 1)])) [.nev] [],
  .ex (.bim .insert (.var 3) [(.ife (.cmp .Is (.var 2) (.cst .non)) (.bif .len [(.var 3)]) (.var 2)), (.var 1)]),
  .ex (.meth 28 (.var 0) [(.var 3)])]
def d_Sheet_put : DefT := ⟨inC (top 39) 9, "put", ["self", "row", "at", "rows"], 3, b_Sheet_put, false, "Sheet.put", (.meth "Sheet"), false, true⟩
/-- Sheet.remove(self, index) -/
def b_Sheet_remove : List MS := [
  .asg (.nm 2) (.bif (.list false) [(.prp (.var 0) 24)]),
  .ex (.meth 29 (.var 0) [(.var 1), (.bif .len [(.var 2)])]),
  .asg (.nm 3) (.bim .pop (.var 2) [(.var 1)]),
  .ex (.meth 28 (.var 0) [(.var 2)]),
  .ret (.var 3)]
def d_Sheet_remove : DefT := ⟨inC (top 39) 10, "remove", ["self", "index", "rows", "found"], 2, b_Sheet_remove, false, "Sheet.remove", (.meth "Sheet"), false, false⟩
/-- Sheet.moved(self, index, to) -/
def b_Sheet_moved : List MS := [
  .asg (.nm 3) (.bif (.list false) [(.prp (.var 0) 24)]),
  .asg (.nm 4) (.bim .pop (.var 3) [(.var 1)]),
  .ret (.bin .Add (.bin .Add (.slc (.var 3) none (some (.var 2))) (.lst true [(.var 4)])) (.slc (.var 3) (some (.var 2)) none))]
def d_Sheet_moved : DefT := ⟨inC (top 39) 11, "moved", ["self", "index", "to", "rows", "row"], 3, b_Sheet_moved, false, "Sheet.moved", (.meth "Sheet"), false, false⟩
/-- Sheet.move(self, index, to) -/
def b_Sheet_move : List MS := [
  .ex (.meth 29 (.var 0) [(.var 1), (.lno (.var 0) 26)]),
  .ex (.meth 29 (.var 0) [(.var 2), (.lno (.var 0) 26)]),
  .ex (.meth 28 (.var 0) [(.meth 32 (.var 0) [(.var 1), (.var 2)])])]
def d_Sheet_move : DefT := ⟨inC (top 39) 12, "move", ["self", "index", "to"], 3, b_Sheet_move, false, "Sheet.move", (.meth "Sheet"), false, false⟩
def dfs : List DefT := [d_is_name, d_is_plain, d_is_guarded, d_is_row, d__law_source, d__law_draw, d__law_names, d__law_plain, d__law_rows, d_names_in, d_fields_in, d_is_index, d_look_rows, d__law_edit, d__law_edited, d__law_right, d_law, d_Program___init__, d_Program_of, d_Program_rows, d_Program___eq__, d_Program___len__, d_Sheet___init__, d_Sheet_program, d_Sheet_rows, d_Sheet_assign, d_Sheet___len__, d_Sheet_look, d_Sheet_edited, d_Sheet_look_index, d_Sheet_put, d_Sheet_remove, d_Sheet_moved, d_Sheet_move]
def gns : List Str := ["LETTERS", "MOST_LETTERS", "RESERVED", "COPY", "LOAD", "STORE", "NEW", "NONE", "SAME", "OTHER", "NAMES_AT", "FIELDS_AT", "GUARDS", "MOST_ROWS", "MOST_GUARDS", "MOST_NAMES", "MOST_FIELDS"]
def gvs : List D := [(.str [97, 98, 99, 100, 101, 102, 103, 104, 105, 106, 107, 108, 109, 110, 111, 112, 113, 114, 115, 116, 117, 118, 119, 120, 121, 122]),
  (.int 8),
  (.tup [(.str [110, 101, 119]), (.str [110, 111, 110, 101]), (.str [105, 102]), (.str [105, 115]), (.str [110, 111, 116]), (.str [115, 101, 108, 102]), (.str [99, 108, 115])]),
  (.str [99, 111, 112, 121]),
  (.str [108, 111, 97, 100]),
  (.str [115, 116, 111, 114, 101]),
  (.str [110, 101, 119]),
  (.str [110, 111, 110, 101]),
  (.str [115, 97, 109, 101]),
  (.str [111, 116, 104, 101, 114]),
  (.kdc [(.str [99, 111, 112, 121]), (.str [108, 111, 97, 100]), (.str [115, 116, 111, 114, 101]), (.str [110, 101, 119]), (.str [110, 111, 110, 101])] [(.tup [(.int 1), (.int 2)]), (.tup [(.int 1), (.int 2)]), (.tup [(.int 1), (.int 3)]), (.tup [(.int 1)]), (.tup [(.int 1)])]),
  (.kdc [(.str [99, 111, 112, 121]), (.str [108, 111, 97, 100]), (.str [115, 116, 111, 114, 101]), (.str [110, 101, 119]), (.str [110, 111, 110, 101])] [(.tup []), (.tup [(.int 3)]), (.tup [(.int 2)]), (.tup []), (.tup [])]),
  (.tup [(.str [115, 97, 109, 101]), (.str [111, 116, 104, 101, 114])]),
  (.int 6),
  (.int 2),
  (.int 4),
  (.int 2)]
def fns : List Str := ["kept", "present", "past"]
def cls_ : List ClT := [⟨"Program", [0]⟩, ⟨"Sheet", [1, 2]⟩]
def MM : ModT := ⟨dfs, gns, gvs, fns, cls_, 0⟩
abbrev TB : Tb := MM.tab
theorem ok_is_name : d_is_name.ok TB = true := by kernel_rfl
theorem ok_is_plain : d_is_plain.ok TB = true := by kernel_rfl
theorem ok_is_guarded : d_is_guarded.ok TB = true := by kernel_rfl
theorem ok_is_row : d_is_row.ok TB = true := by kernel_rfl
theorem ok__law_source : d__law_source.ok TB = true := by kernel_rfl
theorem ok__law_draw : d__law_draw.ok TB = true := by kernel_rfl
theorem ok__law_names : d__law_names.ok TB = true := by kernel_rfl
theorem ok__law_plain : d__law_plain.ok TB = true := by kernel_rfl
theorem ok__law_rows : d__law_rows.ok TB = true := by kernel_rfl
theorem ok_names_in : d_names_in.ok TB = true := by kernel_rfl
theorem ok_fields_in : d_fields_in.ok TB = true := by kernel_rfl
theorem ok_is_index : d_is_index.ok TB = true := by kernel_rfl
theorem ok_look_rows : d_look_rows.ok TB = true := by kernel_rfl
theorem ok__law_edit : d__law_edit.ok TB = true := by kernel_rfl
theorem ok__law_edited : d__law_edited.ok TB = true := by kernel_rfl
theorem ok__law_right : d__law_right.ok TB = true := by kernel_rfl
theorem ok_law : d_law.ok TB = true := by kernel_rfl
theorem ok_Program___init__ : d_Program___init__.ok TB = true := by kernel_rfl
theorem ok_Program_of : d_Program_of.ok TB = true := by kernel_rfl
theorem ok_Program_rows : d_Program_rows.ok TB = true := by kernel_rfl
theorem ok_Program___eq__ : d_Program___eq__.ok TB = true := by kernel_rfl
theorem ok_Program___len__ : d_Program___len__.ok TB = true := by kernel_rfl
theorem ok_Sheet___init__ : d_Sheet___init__.ok TB = true := by kernel_rfl
theorem ok_Sheet_program : d_Sheet_program.ok TB = true := by kernel_rfl
theorem ok_Sheet_rows : d_Sheet_rows.ok TB = true := by kernel_rfl
theorem ok_Sheet_assign : d_Sheet_assign.ok TB = true := by kernel_rfl
theorem ok_Sheet___len__ : d_Sheet___len__.ok TB = true := by kernel_rfl
theorem ok_Sheet_look : d_Sheet_look.ok TB = true := by kernel_rfl
theorem ok_Sheet_edited : d_Sheet_edited.ok TB = true := by kernel_rfl
theorem ok_Sheet_look_index : d_Sheet_look_index.ok TB = true := by kernel_rfl
theorem ok_Sheet_put : d_Sheet_put.ok TB = true := by kernel_rfl
theorem ok_Sheet_remove : d_Sheet_remove.ok TB = true := by kernel_rfl
theorem ok_Sheet_moved : d_Sheet_moved.ok TB = true := by kernel_rfl
theorem ok_Sheet_move : d_Sheet_move.ok TB = true := by kernel_rfl
theorem bd_is_name : d_is_name.Bd := fun _ _ _ _ _ _ us hl => match us, hl with | [_], _ => rfl
theorem bd_is_plain : d_is_plain.Bd := fun _ _ _ _ _ _ us hl => match us, hl with | [_], _ => rfl
theorem bd_is_guarded : d_is_guarded.Bd := fun _ _ _ _ _ _ us hl => match us, hl with | [_], _ => rfl
theorem bd_is_row : d_is_row.Bd := fun _ _ _ _ _ _ us hl => match us, hl with | [_], _ => rfl
theorem bd__law_source : d__law_source.Bd := fun _ _ _ _ _ _ us hl => match us, hl with | [_, _], _ => rfl
theorem bd__law_draw : d__law_draw.Bd := fun _ _ _ _ _ _ us hl => match us, hl with | [_, _], _ => rfl
theorem bd__law_names : d__law_names.Bd := fun _ _ _ _ _ _ us hl => match us, hl with | [_, _], _ => rfl
theorem bd__law_plain : d__law_plain.Bd := fun _ _ _ _ _ _ us hl => match us, hl with | [_, _, _], _ => rfl
theorem bd__law_rows : d__law_rows.Bd := fun _ _ _ _ _ _ us hl => match us, hl with | [_, _, _, _, _], _ => rfl
theorem bd_names_in : d_names_in.Bd := fun _ _ _ _ _ _ us hl => match us, hl with | [_], _ => rfl
theorem bd_fields_in : d_fields_in.Bd := fun _ _ _ _ _ _ us hl => match us, hl with | [_], _ => rfl
theorem bd_is_index : d_is_index.Bd := fun _ _ _ _ _ _ us hl => match us, hl with | [_, _], _ => rfl
theorem bd_look_rows : d_look_rows.Bd := fun _ _ _ _ _ _ us hl => match us, hl with | [_], _ => rfl
theorem bd__law_edit : d__law_edit.Bd := fun _ _ _ _ _ _ us hl => match us, hl with | [_, _, _, _], _ => rfl
theorem bd__law_edited : d__law_edited.Bd := fun _ _ _ _ _ _ us hl => match us, hl with | [_, _], _ => rfl
theorem bd__law_right : d__law_right.Bd := fun _ _ _ _ _ _ us hl => match us, hl with | [_, _], _ => rfl
theorem bd_law : d_law.Bd := fun _ _ _ _ _ _ us hl => match us, hl with | [_], _ => rfl
theorem bd_Program___init__ : d_Program___init__.Bd := fun kV doc pm an cdv ct => by
  show ∀ us rest : List Value, us.length = 1 → bindArgs (PySem.W.fnOf d_Program___init__.name d_Program___init__.qual (defArgs d_Program___init__.st) (defBody d_Program___init__.st) (defScope d_Program___init__.st) .none kV doc pm an cdv ct) ⟨us ++ rest, []⟩ = (newTuple rest >>= fun t => pure ((["self"] : List Str).zip us ++ [(("rows" : Str), t)]))
  exact StX.bind_star1 (B := fun l => bindArgs (PySem.W.fnOf d_Program___init__.name d_Program___init__.qual (defArgs d_Program___init__.st) (defBody d_Program___init__.st) (defScope d_Program___init__.st) .none kV doc pm an cdv ct) ⟨l, []⟩) (fun _ => rfl) (fun _ _ _ => rfl)
theorem bd_Program_of : d_Program_of.Bd := fun _ _ _ _ _ _ us hl => match us, hl with | [_, _], _ => rfl
theorem bd_Program_rows : d_Program_rows.Bd := fun _ _ _ _ _ _ us hl => match us, hl with | [_], _ => rfl
theorem bd_Program___eq__ : d_Program___eq__.Bd := fun _ _ _ _ _ _ us hl => match us, hl with | [_, _], _ => rfl
theorem bd_Program___len__ : d_Program___len__.Bd := fun _ _ _ _ _ _ us hl => match us, hl with | [_], _ => rfl
theorem bd_Sheet___init__ : d_Sheet___init__.Bd := fun kV doc pm an cdv ct => by
  show ∀ us rest : List Value, us.length = 1 → bindArgs (PySem.W.fnOf d_Sheet___init__.name d_Sheet___init__.qual (defArgs d_Sheet___init__.st) (defBody d_Sheet___init__.st) (defScope d_Sheet___init__.st) .none kV doc pm an cdv ct) ⟨us ++ rest, []⟩ = (newTuple rest >>= fun t => pure ((["self"] : List Str).zip us ++ [(("rows" : Str), t)]))
  exact StX.bind_star1 (B := fun l => bindArgs (PySem.W.fnOf d_Sheet___init__.name d_Sheet___init__.qual (defArgs d_Sheet___init__.st) (defBody d_Sheet___init__.st) (defScope d_Sheet___init__.st) .none kV doc pm an cdv ct) ⟨l, []⟩) (fun _ => rfl) (fun _ _ _ => rfl)
theorem bd_Sheet_program : d_Sheet_program.Bd := fun _ _ _ _ _ _ us hl => match us, hl with | [_], _ => rfl
theorem bd_Sheet_rows : d_Sheet_rows.Bd := fun _ _ _ _ _ _ us hl => match us, hl with | [_], _ => rfl
theorem bd_Sheet_assign : d_Sheet_assign.Bd := fun _ _ _ _ _ _ us hl => match us, hl with | [_, _], _ => rfl
theorem bd_Sheet___len__ : d_Sheet___len__.Bd := fun _ _ _ _ _ _ us hl => match us, hl with | [_], _ => rfl
theorem bd_Sheet_look : d_Sheet_look.Bd := fun _ _ _ _ _ _ us hl => match us, hl with | [_, _], _ => rfl
theorem bd_Sheet_edited : d_Sheet_edited.Bd := fun _ _ _ _ _ _ us hl => match us, hl with | [_, _], _ => rfl
theorem bd_Sheet_look_index : d_Sheet_look_index.Bd := fun _ _ _ _ _ _ us hl => match us, hl with | [_, _, _], _ => rfl
theorem bd_Sheet_put : d_Sheet_put.Bd := fun kV doc pm an cdv ct => ⟨fun D us ks e h1 h2 => by
  subst e
  exact match us, ks, h1, h2 with | [_, _], [_], _, _ => ⟨_, _, _, _, _, _, rfl, rfl, rfl⟩, fun us u h1 => match us, h1 with | [_, _], _ => rfl⟩
theorem bd_Sheet_remove : d_Sheet_remove.Bd := fun _ _ _ _ _ _ us hl => match us, hl with | [_, _], _ => rfl
theorem bd_Sheet_moved : d_Sheet_moved.Bd := fun _ _ _ _ _ _ us hl => match us, hl with | [_, _, _], _ => rfl
theorem bd_Sheet_move : d_Sheet_move.Bd := fun _ _ _ _ _ _ us hl => match us, hl with | [_, _, _], _ => rfl
theorem ok_all : AllD (fun d => d.ok MM.tab = true) MM.dfs := ⟨ok_is_name, ok_is_plain, ok_is_guarded, ok_is_row, ok__law_source, ok__law_draw, ok__law_names, ok__law_plain, ok__law_rows, ok_names_in, ok_fields_in, ok_is_index, ok_look_rows, ok__law_edit, ok__law_edited, ok__law_right, ok_law, ok_Program___init__, ok_Program_of, ok_Program_rows, ok_Program___eq__, ok_Program___len__, ok_Sheet___init__, ok_Sheet_program, ok_Sheet_rows, ok_Sheet_assign, ok_Sheet___len__, ok_Sheet_look, ok_Sheet_edited, ok_Sheet_look_index, ok_Sheet_put, ok_Sheet_remove, ok_Sheet_moved, ok_Sheet_move, True.intro⟩
theorem bd_all : AllD DefT.Bd MM.dfs := ⟨bd_is_name, bd_is_plain, bd_is_guarded, bd_is_row, bd__law_source, bd__law_draw, bd__law_names, bd__law_plain, bd__law_rows, bd_names_in, bd_fields_in, bd_is_index, bd_look_rows, bd__law_edit, bd__law_edited, bd__law_right, bd_law, bd_Program___init__, bd_Program_of, bd_Program_rows, bd_Program___eq__, bd_Program___len__, bd_Sheet___init__, bd_Sheet_program, bd_Sheet_rows, bd_Sheet_assign, bd_Sheet___len__, bd_Sheet_look, bd_Sheet_edited, bd_Sheet_look_index, bd_Sheet_put, bd_Sheet_remove, bd_Sheet_moved, bd_Sheet_move, True.intro⟩
theorem fine_ : MM.fine = true := by decide +kernel
theorem isF_all : ∀ f, f < 17 → MM.isF f = true := by decide +kernel
end EV


set_option Elab.async false
set_option linter.all false
set_option maxRecDepth 100000
set_option maxHeartbeats 0
namespace EV
open PySem PySem.Spec PyProof.Rows L2
abbrev RR : PySem.W.OpenRow := PySem.W.OpenLaw.row PySem.Challenge.rw_sharedrows_k64_sheets_edited
abbrev hkR : PySem.W.Hook := hookH 6 MM.facts MM.dds MM.gns MM.ex MM.gv
def obR (s : PySem.W.SharedT) : AlG := obsHG 6 MM.facts MM.dds MM.gns MM.ex (HandSHeadRun.getT s)
theorem obR_eq (s : PySem.W.SharedT) : obR s = hkR.obs s.abs := obsHG_eq (HandSHeadRun.getT_eq s)
def looseR : List Str := (["_wall", "RowsError", "NoRow", "NoText", "NoIndex", "TooMany", "LETTERS", "MOST_LETTERS", "RESERVED", "MOST_ROWS", "MOST_GUARDS", "MOST_NAMES", "MOST_FIELDS", "COPY", "LOAD", "STORE", "NEW", "NONE", "SAME", "OTHER", "NAMES_AT", "FIELDS_AT", "GUARDS", "is_name", "is_plain", "is_guarded", "is_row", "names_in", "fields_in", "row_text"] : List Str) ++ (["plain_of", "row_of", "look_indexes", "is_index", "look_rows", "Program", "Sheet", "_law_source", "_law_draw", "_law_names", "_law_plain", "_law_rows", "_law_edit", "_law_edited", "_law_right"] : List Str)
abbrev RunP (w : World) : Prop := HandSHeadRun.RunEq RR (PySem.W.view RR.prog [49]) hkR obR 60000 looseR w
theorem runHF (w : World) : RunP (w.withFollow "special-get-raises" false) := by
  intro os
  kernel_rfl
theorem runHT (w : World) : RunP (w.withFollow "special-get-raises" true) := by
  intro os
  kernel_rfl
theorem runR (w : World) : RunP w := PySem.W.byRow2 "special-get-raises" runHF runHT w
end EV

set_option Elab.async false
set_option linter.all false
set_option maxRecDepth 100000
set_option maxHeartbeats 4000000
namespace EV
open PySem
abbrev SY : Sys := MM.sys
abbrev cl (k f : Nat) : Spec := (orc SY k).call f
/-- a source: large, mixed, turns -/
def Src (n : Nat) (s : MO) : Prop := ∃ a b c : Int, s = .lst [.int a, .int b, .int c] ∧ 0 ≤ a ∧ 0 ≤ b ∧ b < 2147483629 ∧ 0 ≤ c ∧ c ≤ n
theorem draw_eq (k : Nat) (x y : D) (h : MH) : cl (k + 1) 5 [x, y] h = (runD (orc SY k) 4 b__law_draw [x, y] h).bind (fin false h.length) := rfl
theorem draw_ok {k n i : Nat} {h : MH} {s : MO} {m : Int} (hs : h[i]? = some s) (S : Src n s) (hn : n ≤ 2 ^ 60) (h1 : 0 < m) (h2 : m < 1073741824) :
    ∃ d s', cl (k + 1) 5 [.adr i, .int m] h = some (.int d, h.set i s') ∧ 0 ≤ d ∧ d < m ∧ Src (n + 1) s' := by
  obtain ⟨a, b, c, rfl, ha, hb, hb2, hc, hcn⟩ := S
  have hi : i < h.length := (List.getElem?_eq_some_iff.mp hs).1
  rw [draw_eq]
  by_cases hp : 0 < a
  · refine ⟨a % m, .lst [.int (a / m), .int b, .int c], ?_, ?_, ?_, ?_⟩
    · simp [runD, b__law_draw, execs, exec, sem, sems, evs, val, truS, two, cmpB, cmpD, cmpI, truD, idxD, seqD, hs, ix, hp, takeG, binD, h1, h2, fin]
    · exact Int.emod_nonneg _ (by omega)
    · exact Int.emod_lt_of_pos _ h1
    · exact ⟨_, _, _, rfl, Int.ediv_nonneg ha (by omega), hb, hb2, hc, by omega⟩
  · have hset : ∀ x : MO, (h.set i x)[i]? = some x := fun x => List.getElem?_set_self hi
    have h0 : a = 0 := by omega
    subst h0
    generalize hb1 : (b * 69621 + 40009 * (c + 1) * (c + 1) + 7) % 2147483629 = b1
    have q1 : 0 ≤ b1 := by rw [← hb1]; exact Int.emod_nonneg _ (by decide)
    have q2 : b1 < 2147483629 := by rw [← hb1]; exact Int.emod_lt_of_pos _ (by decide)
    refine ⟨(b1 / 32) ^ 3 % 2147483579 % m, .lst [.int 0, .int b1, .int (c + 1)], ?_, ?_, ?_, ?_⟩
    · have q3 : (b1 / 32).natAbs < 18446744073709551616 := by omega
      have q4 : -18446744073709551616 < c + 1 := by omega
      have q5 : c + 1 < 18446744073709551616 := by omega
      simp [runD, b__law_draw, execs, exec, sem, sems, evs, val, truS, two, cmpB, cmpD, cmpI, truD, idxD, seqD, hs, ix, takeG, binD, h1, h2, fin, hset, hb1, q3, q4, q5]
    · exact Int.emod_nonneg _ (by omega)
    · exact Int.emod_lt_of_pos _ h1
    · exact ⟨_, _, _, rfl, by omega, q1, q2, by omega, by omega⟩
end EV

set_option Elab.async false
set_option linter.all false
set_option maxRecDepth 100000
set_option maxHeartbeats 4000000
namespace EV
open PySem
def lets : S := [97, 98, 99, 100, 101, 102, 103, 104, 105, 106, 107, 108, 109, 110, 111, 112, 113, 114, 115, 116, 117, 118, 119, 120, 121, 122]
def isL (c : Nat) : Bool := lets.contains c
def resD : List D := [.str [110, 101, 119], .str [110, 111, 110, 101], .str [105, 102], .str [105, 115], .str [110, 111, 116], .str [115, 101, 108, 102], .str [99, 108, 115]]
/-- a name, said of a text -/
def isNS (s : S) : Bool := decide (1 ≤ s.length) && decide (s.length ≤ 8) && !(resD.any fun z => deq z (.str s)) && s.all fun c => isL c
def isN : D → Bool
  | .str s => isNS s
  | _ => false
theorem name_eq (k : Nat) (x : D) (h : MH) : cl (k + 1) 0 [x] h = (runD (orc SY k) 2 b_is_name [x] h).bind (fin false h.length) := rfl
theorem allB_map (p : D → Bool) : ∀ xs : List D, allB (xs.map fun x => D.bl (p x)) = some (xs.map p)
  | [] => rfl
  | x :: xs => by
    show (allB (xs.map fun x => D.bl (p x))).map (p x :: ·) = _
    rw [allB_map p xs]
    rfl
theorem allB_c : ∀ s : S, allB (s.map fun c => D.bl (isL c)) = some (s.map fun c => isL c)
  | [] => rfl
  | c :: s => by
    show (allB (s.map fun c => D.bl (isL c))).map (isL c :: ·) = _
    rw [allB_c s]
    rfl
theorem in_res (s : S) (h : MH) : inD (.str s) (.tup resD) h = some (resD.any fun z => deq z (.str s)) := by
  have hf : (flat (.str s) && resD.all flat) = true := by
    show (true && resD.all flat) = true
    decide
  unfold inD
  split
  · rename_i h2
    cases h2
  · simp only [seqD]
    rw [if_pos hf]
theorem name_str {k : Nat} {s : S} {h : MH} : cl (k + 1) 0 [.str s] h = some (.bl (isNS s), h) := by
  rw [name_eq]
  have g1 : (orc SY k).glb 0 = .str lets := by rw [orc_glb]; rfl
  have g2 : (orc SY k).glb 1 = .int 8 := by rw [orc_glb]; rfl
  have g3 : (orc SY k).glb 2 = .tup resD := by rw [orc_glb]; rfl
  have hw : (sem (orc SY k) (.var 0)).w [some (D.str s), none] h = some (s.map fun c => D.str [c], h) := by simp [itS, itD]
  by_cases h1 : (1 : Int) ≤ (s.length : Int)
  · by_cases h2 : (s.length : Int) ≤ 8
    · have hl : (sem (orc SY k) (.lc true (.nm 1) (.var 0) [] (.cmp .In (.var 1) (.glb 0)))).v [some (D.str s), none] h = some (.lst (s.map fun c => .bl (isL c)), h) := by
        rw [lc_map (fun d => match d with | .str [c] => .bl (isL c) | _ => .non) hw (fun x hx => ?_) (by simp; omega)]
        · simp [newL]
        · obtain ⟨c, hc, rfl⟩ := List.mem_map.mp hx
          simp [gath, slotsG, wipeE, takeG, tests, two, cmpB, cmpD, inD, g1, isL]
      have ha := allB_c s
      have h1' : 1 ≤ s.length := by omega
      have h2' : s.length ≤ 8 := by omega
      have hin := in_res s h
      cases hz : (resD.any fun z => deq z (.str s)) with
      | true =>
        have e : isNS s = false := by unfold isNS; rw [hz]; simp
        rw [hz] at hin
        simp only [runD, b_is_name]
        simp [isiS, isTs, isT, dTy, tyS, subT, orT, truS, truD, chain, bifS, bifD, lenB, g2, cmpD, cmpI, cmpB, h1, h2, andV, two, hin, g3, fin, e]
      | false =>
        have e : isNS s = s.all fun c => isL c := by unfold isNS; rw [hz, decide_eq_true h1', decide_eq_true h2']; simp
        rw [hz] at hin
        simp only [runD, b_is_name]
        simp [isiS, isTs, isT, dTy, tyS, subT, orT, truS, truD, chain, bifS, bifD, lenB, g2, cmpD, cmpI, cmpB, h1, h2, andV, two, hin, g3, hl, allBB, lstD, ha, fin, e]
    · have e : isNS s = false := by
        unfold isNS
        rw [decide_eq_false (p := s.length ≤ 8) (by omega)]
        simp
      simp only [runD, b_is_name]
      simp [isiS, isTs, isT, dTy, tyS, subT, orT, truS, truD, chain, bifS, bifD, lenB, g2, cmpD, cmpI, cmpB, h1, h2, andV, two, fin, e]
  · have e : isNS s = false := by
      unfold isNS
      rw [decide_eq_false (p := 1 ≤ s.length) (by omega)]
      simp
    simp only [runD, b_is_name]
    simp [isiS, isTs, isT, dTy, tyS, subT, orT, truS, truD, chain, bifS, bifD, lenB, g2, cmpD, cmpI, cmpB, h1, andV, two, fin, e]
theorem name_no {k : Nat} {d : D} {t : String} {h : MH} (ht : dTy h d = some t) (hn : subT t "str" = false) : cl (k + 1) 0 [d] h = some (.bl false, h) := by
  rw [name_eq]
  simp only [runD, b_is_name]
  simp [isiS, isTs, isT, ht, hn, tyS, orT, truS, truD, fin]
theorem plains_strs : ∀ s : S, plains 59 (s.map fun c => D.str [c]) = true
  | [] => rfl
  | c :: s => by
    show (plain 59 (.str [c]) && plains 59 (s.map fun c => D.str [c])) = true
    rw [plains_strs s]
    rfl
def notLD : D → Bool
  | .str [c] => !isL c
  | _ => false
theorem notLD_c (c : Nat) : notLD (.str [c]) = !isL c := rfl
theorem filter_strs : ∀ s : S, (s.map fun c => D.str [c]).filter notLD = (s.filter fun c => !isL c).map fun c => D.str [c]
  | [] => rfl
  | c :: s => by
    rw [List.map_cons, List.filter_cons, List.filter_cons, notLD_c, filter_strs s]
    by_cases h : isL c = true <;> simp [h]
theorem deqs_filter : ∀ s : S, deqs ((s.filter fun c => !isL c).map fun c => D.str [c]) [] = s.all fun c => isL c
  | [] => rfl
  | c :: s => by
    rw [List.filter_cons, List.all_cons]
    by_cases h : isL c = true
    · rw [h]
      simpa using deqs_filter s
    · rw [if_pos (by simpa using h), Bool.eq_false_iff.mpr h]
      rfl
/-- data without objects: its type's name -/
theorem plain_ty {n : Nat} {d : D} {h : MH} (hp : plain n d = true) : ∃ t, dTy h d = some t ∧ (subT t "str" = true → ∃ s, d = .str s) ∧ (subT t "tuple" = true → ∃ xs, d = .tup xs) ∧ ((∀ xs, d ≠ .tup xs) → subT t "tuple" = false) ∧ ((∀ s, d ≠ .str s) → subT t "str" = false) := by
  cases d with
  | non => exact ⟨_, rfl, fun z => absurd z (by decide), fun z => absurd z (by decide), fun _ => (by decide), fun _ => (by decide)⟩
  | bl b => exact ⟨_, rfl, fun z => absurd z (by decide), fun z => absurd z (by decide), fun _ => (by decide), fun _ => (by decide)⟩
  | int i => exact ⟨_, rfl, fun z => absurd z (by decide), fun z => absurd z (by decide), fun _ => (by decide), fun _ => (by decide)⟩
  | str s => exact ⟨_, rfl, fun z => ⟨s, rfl⟩, fun z => absurd z (by decide), fun _ => (by decide), fun z => absurd rfl (z s)⟩
  | tup xs => exact ⟨_, rfl, fun z => absurd z (by decide), fun z => ⟨xs, rfl⟩, fun z => absurd rfl (z xs), fun _ => (by decide)⟩
  | lst xs => exact ⟨_, rfl, fun z => absurd z (by decide), fun z => absurd z (by decide), fun _ => (by decide), fun _ => (by decide)⟩
  | _ => cases n <;> cases hp
theorem name_ok {k n : Nat} {d : D} {h : MH} (hp : plain n d = true) : cl (k + 1) 0 [d] h = some (.bl (isN d), h) := by
  cases d with
  | str s => exact name_str
  | _ =>
    obtain ⟨t, ht, _, _, _, h4⟩ := plain_ty (h := h) hp
    exact name_no ht (h4 fun s e => by cases e)
end EV

set_option Elab.async false
set_option linter.all false
set_option maxRecDepth 100000
set_option maxHeartbeats 4000000
namespace EV
open PySem
def kk : List D := [.str [99, 111, 112, 121], .str [108, 111, 97, 100], .str [115, 116, 111, 114, 101], .str [110, 101, 119], .str [110, 111, 110, 101]]
def v10 : List D := [.tup [.int 1, .int 2], .tup [.int 1, .int 2], .tup [.int 1, .int 3], .tup [.int 1], .tup [.int 1]]
def v11 : List D := [.tup [], .tup [.int 3], .tup [.int 2], .tup [], .tup []]
def vsz : List D := [.int 3, .int 4, .int 4, .int 2, .int 2]
def gd : List D := [.str [115, 97, 109, 101], .str [111, 116, 104, 101, 114]]
theorem gl10 (k : Nat) : (orc SY k).glb 10 = .kdc kk v10 := by rw [orc_glb]; rfl
theorem gl11 (k : Nat) : (orc SY k).glb 11 = .kdc kk v11 := by rw [orc_glb]; rfl
theorem gl12 (k : Nat) : (orc SY k).glb 12 = .tup gd := by rw [orc_glb]; rfl
def Row3 (w : S) (a b : List D) (n : Int) : Prop := look (.str w) kk v10 = some (.tup a) ∧ look (.str w) kk v11 = some (.tup b) ∧ look (.str w) kk vsz = some (.int n) ∧ n = 1 + a.length + b.length ∧ (gd.any fun z => deq z (.str w)) = false
theorem tab (w : S) : (look (.str w) kk v10 = none ∧ look (.str w) kk v11 = none ∧ look (.str w) kk vsz = none) ∨ ∃ a b n, Row3 w a b n := by
  have hd : ∀ s : S, deq (.str s) (.str w) = true → s = w := fun s h => by
    have h : (s == w) = true := h
    exact eq_of_beq h
  by_cases h1 : deq (.str [99, 111, 112, 121]) (.str w) = true
  · cases hd _ h1
    exact .inr ⟨[.int 1, .int 2], [], 3, rfl, rfl, rfl, rfl, rfl⟩
  by_cases h2 : deq (.str [108, 111, 97, 100]) (.str w) = true
  · cases hd _ h2
    exact .inr ⟨[.int 1, .int 2], [.int 3], 4, rfl, rfl, rfl, rfl, rfl⟩
  by_cases h3 : deq (.str [115, 116, 111, 114, 101]) (.str w) = true
  · cases hd _ h3
    exact .inr ⟨[.int 1, .int 3], [.int 2], 4, rfl, rfl, rfl, rfl, rfl⟩
  by_cases h4 : deq (.str [110, 101, 119]) (.str w) = true
  · cases hd _ h4
    exact .inr ⟨[.int 1], [], 2, rfl, rfl, rfl, rfl, rfl⟩
  by_cases h5 : deq (.str [110, 111, 110, 101]) (.str w) = true
  · cases hd _ h5
    exact .inr ⟨[.int 1], [], 2, rfl, rfl, rfl, rfl, rfl⟩
  · left
    simp [look, kk, v10, v11, vsz, h1, h2, h3, h4, h5]
/-- a plain row -/
def isPl : D → Bool
  | .tup (.str w :: ps) => match look (.str w) kk vsz with
    | some (.int n) => decide (1 + (ps.length : Int) = n) && ps.all isN
    | _ => false
  | _ => false
def isGd : D → Bool
  | .tup [.str w, a, b, c] => (gd.any fun z => deq z (.str w)) && isN a && isN b && isPl c
  | _ => false
theorem plain_eq (k : Nat) (x : D) (h : MH) : cl (k + 1) 1 [x] h = (runD (orc SY k) 3 b_is_plain [x] h).bind (fin false h.length) := rfl
theorem names_all {k m : Nat} {h : MH} : ∀ {ps : List D}, plains m ps = true → allB (ps.map fun p => D.bl (isN p)) = some (ps.map isN) := fun {ps} _ => allB_map isN ps
theorem plain_no {k n : Nat} {d : D} {h : MH} (hp : plain n d = true) (hn : ∀ xs, d ≠ .tup xs) : cl (k + 1) 1 [d] h = some (.bl false, h) := by
  obtain ⟨t, ht, _, _, h3, _⟩ := plain_ty (h := h) hp
  rw [plain_eq]
  simp only [runD, b_is_plain]
  simp [isiS, isTs, isT, ht, h3 hn, tyS, orT, truS, truD, fin]
theorem plain_nil {k : Nat} {h : MH} : cl (k + 1) 1 [.tup []] h = some (.bl false, h) := by
  rw [plain_eq]
  simp only [runD, b_is_plain]
  simp [isiS, isTs, isT, dTy, subT, tyS, orT, truS, truD, bifS, bifD, lenB, seqD, two, cmpB, cmpD, isRep, thaw, plain, deq, fin]
theorem idx0 (x : D) (ps : List D) (h : MH) : idxD (.tup (x :: ps)) (.int 0) h = some x := by
  have e : ix (x :: ps).length 0 = some 0 := by
    unfold ix
    rw [if_pos (Int.le_refl 0), if_pos (by simp only [List.length_cons]; omega)]
    rfl
  show (match ix (x :: ps).length 0 with
    | some j => (x :: ps)[j]?
    | none => none) = some x
  rw [e]
  rfl
theorem eq_int (a b : Int) (h : MH) : cmpD .Eq (.int a) (.int b) h = some (a == b) := rfl
theorem in_kk (w : S) (h : MH) : inD (.str w) (.kdc kk v10) h = some (look (.str w) kk v10).isSome := by
  unfold inD
  split
  · rename_i h2; cases h2
  · rfl
theorem idx_kd (w : S) (vs : List D) (h : MH) : idxD (.kdc kk vs) (.str w) h = look (.str w) kk vs := rfl
theorem cut_tl (x : D) (ps : List D) : cut (x :: ps) (some 1) none = ps := by
  have e1 : sx (x :: ps).length 0 (some 1) = 1 := by
    have e : sx (x :: ps).length 0 (some 1) = min 1 (ps.length + 1) := rfl
    rw [e]
    omega
  have e2 : sx (x :: ps).length (x :: ps).length none = (x :: ps).length := rfl
  unfold cut
  rw [e1, e2]
  simp
theorem lc_names {k j m : Nat} {fz : Bool} {σ : En} {h : MH} {ps : List D} {it : ME} (hf : (orc SY k).isF 0 = true) (hi : (sem (orc SY (k + 1)) it).w σ h = some (ps, h)) (hps : plains m ps = true) (hl : ps.length < 200000) (hj : j < σ.length) :
    (sem (orc SY (k + 1)) (.lc fz (.nm j) it [] (.call 0 [.var j]))).v σ h = some (newL fz (ps.map fun p => .bl (isN p)) h) := by
  refine lc_map (fun p => .bl (isN p)) hi (fun x hx => ?_) (by omega)
  have hxp : plain m x = true := by
    clear hi hl
    induction ps with
    | nil => cases hx
    | cons y ps ih =>
      have h2 := Bool.and_eq_true_iff.mp hps
      rcases List.mem_cons.mp hx with rfl | hx
      · exact h2.1
      · exact ih h2.2 hx
  have hn := name_ok (k := k) (h := h) hxp
  have hf2 : (orc SY (k + 1)).isF 0 = true := by rw [orc_isF] at hf ⊢; exact hf
  have hj2 : j < (wipeE σ [j]).length := by simp [wipeE, hj]
  simp [gath, slotsG, takeG, tests, hf2, List.getElem?_set_self hj2, hn]
theorem plain_tup {k m : Nat} {x : D} {ps : List D} {h : MH} (hp : plains m (x :: ps) = true) (hl : ps.length < 200000) : cl (k + 2) 1 [.tup (x :: ps)] h = some (.bl (isPl (.tup (x :: ps))), h) := by
  rw [plain_eq]
  have hx : plain m x = true := (Bool.and_eq_true_iff.mp hp).1
  have hps : plains m ps = true := (Bool.and_eq_true_iff.mp hp).2
  have hz : ((ps.length : Int) + 1 == 0) = false := by
    rw [beq_eq_false_iff_ne]
    omega
  by_cases hs : ∃ w, x = .str w
  · obtain ⟨w, rfl⟩ := hs
    rcases tab w with ⟨t1, t2, t3⟩ | ⟨a, b, n, t1, t2, t3, t4, t5⟩
    · have e : isPl (.tup (.str w :: ps)) = false := by simp [isPl, t3]
      simp only [runD, b_is_plain]
      simp [isiS, isTs, isT, dTy, subT, tyS, orT, truS, truD, bifS, bifD, lenB, seqD, two, cmpB, cmpD, isRep, thaw, plain, deq, hz, idx0, in_kk, gl10, t1, fin, e]
    · have e : isPl (.tup (.str w :: ps)) = (decide (1 + (ps.length : Int) = n) && ps.all isN) := by simp [isPl, t3]
      have hlc := lc_names (k := k) (j := 2) (m := m) (fz := true) (σ := [some (.tup (.str w :: ps)), some (.int (1 + a.length + b.length)), none]) (h := h) (ps := ps) (it := .slc (.var 0) (some (.cst (.int 1))) none) (by rw [orc_isF]; rfl) (by simp [itS, itD, part, slcD, cut_tl]) hps hl (by simp)
      have hlc : _ = some (D.lst (ps.map fun p => .bl (isN p)), h) := hlc
      by_cases hq : 1 + (ps.length : Int) = n
      · have hq2 : ((ps.length : Int) + 1 == 1 + (a.length : Int) + (b.length : Int)) = true := by
          rw [beq_iff_eq]
          omega
        rw [decide_eq_true hq, Bool.true_and] at e
        simp only [runD, b_is_plain]
        simp [isiS, isTs, isT, dTy, subT, tyS, orT, truS, truD, bifS, bifD, lenB, seqD, two, cmpB, cmpD, isRep, thaw, plain, deq, hz, idx0, in_kk, idx_kd, gl10, gl11, t1, t2, takeG, binD, andV, hq2, hlc, allBB, lstD, allB_map, fin, e, Function.comp_def]
      · have hq2 : ((ps.length : Int) + 1 == 1 + (a.length : Int) + (b.length : Int)) = false := by
          rw [beq_eq_false_iff_ne]
          omega
        rw [decide_eq_false hq, Bool.false_and] at e
        simp only [runD, b_is_plain]
        simp [isiS, isTs, isT, dTy, subT, tyS, orT, truS, truD, bifS, bifD, lenB, seqD, two, cmpB, cmpD, isRep, thaw, plain, deq, hz, idx0, in_kk, idx_kd, gl10, gl11, t1, t2, takeG, binD, andV, hq2, fin, e]
  · obtain ⟨t, ht, _, _, _, h4⟩ := plain_ty (h := h) hx
    have hns := h4 fun s e => hs ⟨s, e⟩
    have hty : dTy h (.tup (x :: ps)) = some "tuple" := rfl
    have hsq : subT "tuple" "tuple" = true := by decide
    have e : isPl (.tup (x :: ps)) = false := by
      cases x <;> first | rfl | exact absurd ⟨_, rfl⟩ hs
    simp only [runD, b_is_plain]
    simp [isiS, isTs, isT, hty, hsq, ht, hns, tyS, orT, truS, truD, bifS, bifD, lenB, seqD, two, cmpB, cmpD, isRep, thaw, plain, deq, hz, idx0, fin, e]
end EV

set_option Elab.async false
set_option linter.all false
set_option maxRecDepth 100000
set_option maxHeartbeats 4000000
namespace EV
open PySem
theorem wts_len : ∀ xs : List D, xs.length ≤ wts xs
  | [] => Nat.le_refl _
  | x :: xs => by
    have := wts_len xs
    show xs.length + 1 ≤ wt x + 1 + wts xs
    omega
theorem wts_mem : ∀ {xs : List D} {x : D}, x ∈ xs → wt x < wts xs
  | y :: xs, x, h => by
    show wt x < wt y + 1 + wts xs
    rcases List.mem_cons.mp h with rfl | h
    · omega
    · have := wts_mem h
      omega
theorem plains_mem {n : Nat} : ∀ {xs : List D} {x : D}, plains n xs = true → x ∈ xs → plain n x = true
  | y :: xs, x, hp, h => by
    have h2 := Bool.and_eq_true_iff.mp hp
    rcases List.mem_cons.mp h with rfl | h
    · exact h2.1
    · exact plains_mem h2.2 h
/-- data that the law hands about: small -/
def Fine (n : Nat) (d : D) : Prop := plain n d = true ∧ wt d < 200000
theorem Fine.part {n : Nat} {xs : List D} (h : Fine n (.tup xs)) : plains (n - 1) xs = true ∧ (∀ x ∈ xs, Fine (n - 1) x) ∧ xs.length < 200000 := by
  obtain ⟨hp, hw⟩ := h
  cases n with
  | zero => cases hp
  | succ n =>
    have hp : plains n xs = true := hp
    have hw : wts xs < 200000 := hw
    exact ⟨hp, fun x hx => ⟨plains_mem hp hx, by have := wts_mem hx; omega⟩, by have := wts_len xs; omega⟩
theorem plain_ok {k n : Nat} {d : D} {h : MH} (hd : Fine n d) : cl (k + 2) 1 [d] h = some (.bl (isPl d), h) := by
  by_cases ht : ∃ xs, d = .tup xs
  · obtain ⟨xs, rfl⟩ := ht
    cases xs with
    | nil => exact plain_nil
    | cons x ps =>
      obtain ⟨h1, _, h3⟩ := hd.part
      exact plain_tup h1 (by simp only [List.length_cons] at h3; omega)
  · have e : isPl d = false := by
      cases d <;> first | rfl | exact absurd ⟨_, rfl⟩ ht
    rw [e]
    exact plain_no hd.1 fun xs z => ht ⟨xs, z⟩
theorem guard_eq (k : Nat) (x : D) (h : MH) : cl (k + 1) 2 [x] h = (runD (orc SY k) 1 b_is_guarded [x] h).bind (fin false h.length) := rfl
theorem in_gd (w : S) (h : MH) : inD (.str w) (.tup gd) h = some (gd.any fun z => deq z (.str w)) := by
  have hf : (flat (.str w) && gd.all flat) = true := by
    show (true && gd.all flat) = true
    decide
  unfold inD
  split
  · rename_i h2
    cases h2
  · simp only [seqD]
    rw [if_pos hf]
theorem idxN {xs : List D} {x : D} {h : MH} (n : Nat) (e : xs[n]? = some x) : idxD (.tup xs) (.int n) h = some x := by
  have hl : n < xs.length := (List.getElem?_eq_some_iff.mp e).1
  have e1 : ix xs.length (n : Int) = some n := by
    unfold ix
    rw [if_pos (by omega), if_pos (by omega)]
    rfl
  show (match ix xs.length (n : Int) with
    | some j => xs[j]?
    | none => none) = some x
  rw [e1]
  exact e
theorem guard_ok {k n : Nat} {d : D} {h : MH} (hd : Fine n d) : cl (k + 3) 2 [d] h = some (.bl (isGd d), h) := by
  rw [guard_eq]
  have hf : ∀ f, f < 17 → (orc SY (k + 2)).isF f = true := fun f hf => by rw [orc_isF]; exact isF_all f hf
  by_cases ht : ∃ xs, d = .tup xs
  · obtain ⟨xs, rfl⟩ := ht
    obtain ⟨h1, h2, h3⟩ := hd.part
    by_cases hl : xs.length = 4
    · match xs, hl with
      | [x, a, b, c], _ =>
        have i0 : idxD (.tup [x, a, b, c]) (.int 0) h = some x := idxN 0 rfl
        have i1 : idxD (.tup [x, a, b, c]) (.int 1) h = some a := idxN 1 rfl
        have i2 : idxD (.tup [x, a, b, c]) (.int 2) h = some b := idxN 2 rfl
        have i3 : idxD (.tup [x, a, b, c]) (.int 3) h = some c := idxN 3 rfl
        have na := name_ok (k := k + 1) (h := h) (h2 a (by simp)).1
        have nb := name_ok (k := k + 1) (h := h) (h2 b (by simp)).1
        have nc := plain_ok (k := k) (h := h) (h2 c (by simp))
        have hty : dTy h (.tup [x, a, b, c]) = some "tuple" := rfl
        have hsq : subT "tuple" "tuple" = true := by decide
        by_cases hs : ∃ w, x = .str w
        · obtain ⟨w, rfl⟩ := hs
          have hin := in_gd w h
          have hst : dTy h (.str w) = some "str" := rfl
          have hss : subT "str" "str" = true := by decide
          cases hz : (gd.any fun z => deq z (.str w)) with
          | true =>
            rw [hz] at hin
            have e : isGd (.tup [.str w, a, b, c]) = (isN a && isN b && isPl c) := by simp [isGd, hz]
            rw [e]
            clear e
            cases ea : isN a <;> cases eb : isN b <;> rw [ea] at na <;> rw [eb] at nb
            all_goals
              simp only [runD, b_is_guarded]
              simp [isiS, isTs, isT, hty, hsq, hst, hss, tyS, orT, truS, truD, bifS, bifD, lenB, seqD, two, cmpB, cmpD, isRep, thaw, plain, deq, i0, i1, i2, i3, hin, gl12, fin, hf, na, nb, nc, andV]
          | false =>
            rw [hz] at hin
            have e : isGd (.tup [.str w, a, b, c]) = false := by simp [isGd, hz]
            simp only [runD, b_is_guarded]
            simp [isiS, isTs, isT, hty, hsq, hst, hss, tyS, orT, truS, truD, bifS, bifD, lenB, seqD, two, cmpB, cmpD, isRep, thaw, plain, deq, i0, i1, i2, i3, hin, gl12, fin, e]
        · obtain ⟨t, ht, _, _, _, h4⟩ := plain_ty (h := h) (h2 x (by simp)).1
          have hns := h4 fun s e => hs ⟨s, e⟩
          have e : isGd (.tup [x, a, b, c]) = false := by cases x <;> first | rfl | exact absurd ⟨_, rfl⟩ hs
          simp only [runD, b_is_guarded]
          simp [isiS, isTs, isT, hty, hsq, ht, hns, tyS, orT, truS, truD, bifS, bifD, lenB, seqD, two, cmpB, cmpD, isRep, thaw, plain, deq, i0, fin, e]
    · have hty : dTy h (.tup xs) = some "tuple" := rfl
      have hsq : subT "tuple" "tuple" = true := by decide
      have hz : ((xs.length : Int) == 4) = false := by
        rw [beq_eq_false_iff_ne]
        omega
      have e : isGd (.tup xs) = false := by
        unfold isGd
        split
        · rename_i he
          cases he
          exact absurd rfl hl
        · rfl
      simp only [runD, b_is_guarded]
      simp [isiS, isTs, isT, hty, hsq, tyS, orT, truS, truD, bifS, bifD, lenB, seqD, two, cmpB, cmpD, isRep, thaw, plain, deq, hz, fin, e]
  · obtain ⟨t, hty, _, _, h3, _⟩ := plain_ty (h := h) hd.1
    have hn := h3 fun xs z => ht ⟨xs, z⟩
    have e : isGd d = false := by cases d <;> first | rfl | exact absurd ⟨_, rfl⟩ ht
    simp only [runD, b_is_guarded]
    simp [isiS, isTs, isT, hty, hn, tyS, orT, truS, truD, fin, e]
theorem row_eq (k : Nat) (x : D) (h : MH) : cl (k + 1) 3 [x] h = (runD (orc SY k) 1 b_is_row [x] h).bind (fin false h.length) := rfl
def isR (d : D) : Bool := isPl d || isGd d
theorem row_ok {k n : Nat} {d : D} {h : MH} (hd : Fine n d) : cl (k + 4) 3 [d] h = some (.bl (isR d), h) := by
  rw [row_eq]
  have hf : ∀ f, f < 17 → (orc SY (k + 3)).isF f = true := fun f hf => by rw [orc_isF]; exact isF_all f hf
  have hp := plain_ok (k := k + 1) (h := h) hd
  have hg := guard_ok (k := k) (h := h) hd
  unfold isR
  cases ep : isPl d <;> rw [ep] at hp
  all_goals
    simp only [runD, b_is_row]
    simp [orV, hf, hp, hg, fin]
end EV

set_option Elab.async false
set_option linter.all false
set_option maxRecDepth 100000
set_option maxHeartbeats 4000000
namespace EV
open PySem
theorem Src.eq {n : Nat} {s : MO} (S : Src n s) : ∃ a b c : Int, s = .lst [.int a, .int b, .int c] := by
  obtain ⟨a, b, c, e, _⟩ := S
  exact ⟨a, b, c, e⟩
def AtH (n i : Nat) (h : MH) : Prop := ∃ s, h[i]? = some s ∧ Src n s
def Adv (n i : Nat) (h h' : MH) : Prop := i < h.length ∧ ∃ s, h' = h.set i s ∧ Src n s
theorem Adv.at {n i : Nat} {h h' : MH} (a : Adv n i h h') : AtH n i h' := by
  obtain ⟨hi, s, rfl, S⟩ := a
  exact ⟨s, List.getElem?_set_self hi, S⟩
theorem Adv.trans {n m i : Nat} {h h' h'' : MH} (a : Adv n i h h') (b : Adv m i h' h'') : Adv m i h h'' := by
  obtain ⟨hi, s, rfl, S⟩ := a
  obtain ⟨hi2, s2, rfl, S2⟩ := b
  exact ⟨hi, s2, by rw [List.set_set], S2⟩
theorem Src.mono {n m : Nat} {s : MO} (S : Src n s) (hm : n ≤ m) : Src m s := by
  obtain ⟨a, b, c, e, h1, h2, h3, h4, h5⟩ := S
  exact ⟨a, b, c, e, h1, h2, h3, h4, by omega⟩
theorem Adv.mono {n m i : Nat} {h h' : MH} (a : Adv n i h h') (hm : n ≤ m) : Adv m i h h' := by
  obtain ⟨hi, s, e, S⟩ := a
  exact ⟨hi, s, e, S.mono hm⟩
theorem AtH.mono {n m i : Nat} {h : MH} (a : AtH n i h) (hm : n ≤ m) : AtH m i h := by
  obtain ⟨s, e, S⟩ := a
  exact ⟨s, e, S.mono hm⟩
theorem AtH.lt {n i : Nat} {h : MH} (a : AtH n i h) : i < h.length := by
  obtain ⟨s, e, S⟩ := a
  exact (List.getElem?_eq_some_iff.mp e).1
theorem AtH.refl {n i : Nat} {h : MH} (a : AtH n i h) : Adv n i h h := by
  obtain ⟨s, e, S⟩ := a
  have hi := (List.getElem?_eq_some_iff.mp e)
  exact ⟨hi.1, s, by rw [← hi.2, List.set_getElem_self], S⟩
theorem Adv.len {n i : Nat} {h h' : MH} (a : Adv n i h h') : h'.length = h.length := by
  obtain ⟨hi, s, rfl, S⟩ := a
  simp
theorem AtH.app {n i : Nat} {h : MH} (a : AtH n i h) (t : MH) : AtH n i (h ++ t) := by
  obtain ⟨s, e, S⟩ := a
  exact ⟨s, by rw [List.getElem?_append_left (List.getElem?_eq_some_iff.mp e).1]; exact e, S⟩
theorem Adv.app {n i : Nat} {h t h' : MH} (hi : i < h.length) (a : Adv n i (h ++ t) h') : ∃ h2, h' = h2 ++ t ∧ Adv n i h h2 := by
  obtain ⟨_, s, rfl, S⟩ := a
  exact ⟨h.set i s, by rw [List.set_append_left _ _ hi], hi, s, rfl, S⟩
theorem draw {k n i : Nat} {h : MH} {m : Int} (a : AtH n i h) (hn : n ≤ 2 ^ 60) (h1 : 0 < m) (h2 : m < 1073741824) :
    ∃ d h', cl (k + 1) 5 [.adr i, .int m] h = some (.int d, h') ∧ 0 ≤ d ∧ d < m ∧ Adv (n + 1) i h h' := by
  obtain ⟨s, e, S⟩ := a
  obtain ⟨d, s', g, d0, d1, S'⟩ := draw_ok (k := k) e S hn h1 h2
  exact ⟨d, _, g, d0, d1, (List.getElem?_eq_some_iff.mp e).1, s', rfl, S'⟩
theorem isF' (k f : Nat) (hf : f < 17) : (orc SY k).isF f = true := by rw [orc_isF]; exact isF_all f hf
/-- a loop by an invariant that counts -/
theorem loop_cnt {f : D → En → MH → Option (Fl × En × MH)} (I : Nat → En → MH → Prop) : ∀ {xs : List D}, (∀ j x, x ∈ xs → j < xs.length → ∀ σ h, I j σ h → ∃ σ' h', f x σ h = some (.nx, σ', h') ∧ I (j + 1) σ' h') → ∀ {j0 : Nat}, True → ∀ {σ h}, I 0 σ h → ∃ σ' h', loop f xs σ h = some (.nx, σ', h') ∧ I xs.length σ' h' := by
  intro xs hs _ _ σ h h0
  have key : ∀ (ys : List D) (j : Nat), (∀ y ∈ ys, y ∈ xs) → j + ys.length = xs.length → ∀ σ h, I j σ h → ∃ σ' h', loop f ys σ h = some (.nx, σ', h') ∧ I xs.length σ' h' := by
    intro ys
    induction ys with
    | nil => intro j _ hj σ h hI; exact ⟨σ, h, rfl, by simpa [← hj] using hI⟩
    | cons y ys ih =>
      intro j hm hj σ h hI
      have hj : j + (ys.length + 1) = xs.length := by simpa using hj
      obtain ⟨σ1, h1, e1, I1⟩ := hs j y (hm y List.mem_cons_self) (by omega) σ h hI
      obtain ⟨σ2, h2, e2, I2⟩ := ih (j + 1) (fun z hz => hm z (List.mem_cons_of_mem _ hz)) (by omega) σ1 h1 I1
      exact ⟨σ2, h2, by unfold loop; rw [e1]; exact e2, I2⟩
  exact key xs 0 (fun _ h => h) (by omega) σ h h0
end EV

set_option Elab.async false
set_option linter.all false
set_option maxRecDepth 100000
set_option maxHeartbeats 4000000
namespace EV
open PySem
theorem src_num {p : Nat} {c mx : Int} (hp : p ≤ 63) (hm : c % 2147483629 + 5003 * (p : Int) * p + 97 * p + 3 = mx) : 0 ≤ mx ∧ mx.natAbs < 18446744073709551616 := by
  have hpp : (p : Int) * p ≤ 3969 := by
    have h2 : (p : Int) ≤ 63 := by omega
    have h3 : (p : Int) * p ≤ 63 * 63 := Int.mul_le_mul h2 h2 (by omega) (by omega)
    omega
  have hpp0 : 0 ≤ (p : Int) * p := Int.mul_nonneg (by omega) (by omega)
  have m0 : 0 ≤ c % 2147483629 := Int.emod_nonneg _ (by decide)
  have m1 : c % 2147483629 < 2147483629 := Int.emod_lt_of_pos _ (by decide)
  have e1 : 5003 * (p : Int) * p = 5003 * ((p : Int) * p) := Int.mul_assoc _ _ _
  omega
theorem pow18 (h : MH) : binD .Pow (.int 10) (.int 18) h = some (.int 1000000000000000000) := by
  show (if decide ((0 : Int) ≤ 18 ∧ (18 : Int) ≤ 1000000 ∧ (10 : Int).natAbs < 2 ^ 64) then some (D.int (10 ^ (18 : Int).toNat)) else none) = _
  rw [if_pos (by decide)]
  rfl
theorem lg1 {O : Orc} {ns : List Int} {p : Nat} {h : MH} {c : Int} : ∃ l : Int, 0 ≤ l ∧ (sem O (.ife (.cmp .GtE (.bif .abs [(.var 2)]) (.bin .Pow (.cst (.int 10)) (.cst (.int 18)))) (.bif .abs [(.var 2)]) (.cst (.int 0)))).v [some (.scr ns), some (.int p), some (.int c), none, none] h = some (.int l, h) := by
  generalize hT : (1000000000000000000 : Int) = T
  have hp := pow18 h
  rw [hT] at hp
  by_cases ha : T ≤ (if c < 0 then -c else c)
  · exact ⟨if c < 0 then -c else c, by omega, by simp [bifS, bifD, absB, two, hp, cmpB, cmpD, cmpI, ifV, truS, truD, ha]⟩
  · exact ⟨0, by omega, by simp [bifS, bifD, absB, two, hp, cmpB, cmpD, cmpI, ifV, truS, truD, ha]⟩
theorem pow3 {x : Int} (h : MH) (hx : x.natAbs < 18446744073709551616) : binD .Pow (.int x) (.int 3) h = some (.int (x ^ 3)) := by
  show (if decide ((0 : Int) ≤ 3 ∧ (3 : Int) ≤ 1000000 ∧ x.natAbs < 2 ^ 64) then some (D.int (x ^ (3 : Int).toNat)) else none) = _
  rw [if_pos (decide_eq_true ⟨by decide, by decide, hx⟩)]
  rfl
theorem mul_l {x y : Int} (h : MH) (h1 : -18446744073709551616 < x) (h2 : x < 18446744073709551616) : binD .Mult (.int x) (.int y) h = some (.int (x * y)) := by
  show (if decide (-(2 ^ 64) < x ∧ x < 2 ^ 64) || decide (-(2 ^ 64) < y ∧ y < 2 ^ 64) then some (D.int (x * y)) else none) = _
  rw [if_pos]
  rw [Bool.or_eq_true]
  exact .inl (decide_eq_true ⟨h1, h2⟩)
theorem mul_r {x y : Int} (h : MH) (h1 : -18446744073709551616 < y) (h2 : y < 18446744073709551616) : binD .Mult (.int x) (.int y) h = some (.int (x * y)) := by
  show (if decide (-(2 ^ 64) < x ∧ x < 2 ^ 64) || decide (-(2 ^ 64) < y ∧ y < 2 ^ 64) then some (D.int (x * y)) else none) = _
  rw [if_pos]
  rw [Bool.or_eq_true]
  exact .inr (decide_eq_true ⟨h1, h2⟩)
theorem mod_i {x y : Int} (h : MH) (h1 : 0 < y) : binD .Mod (.int x) (.int y) h = some (.int (x % y)) := by
  show (if decide (0 < y) then some (D.int (x % y)) else none) = _
  rw [if_pos (decide_eq_true h1)]
theorem add_i (x y : Int) (h : MH) : binD .Add (.int x) (.int y) h = some (.int (x + y)) := by simp only [binD]
theorem sub_i (x y : Int) (h : MH) : binD .Sub (.int x) (.int y) h = some (.int (x - y)) := by simp only [binD]
theorem source_eq (k : Nat) (x y : D) (h : MH) : cl (k + 1) 4 [x, y] h = (runD (orc SY k) 5 b__law_source [x, y] h).bind (fin false h.length) := rfl
theorem sr_s1 {k : Nat} {ns : List Int} {p : Nat} {h : MH} {c : Int} (hc : (sem (orc SY k) (.ife (.cmp .Lt (.var 1) (.bif .len [(.var 0)])) (.idx (.var 0) (.var 1)) (.cst (.int 0)))).v [some (.scr ns), some (.int p), none, none, none] h = some (.int c, h)) : exec (orc SY k) (.asg (.nm 2) (.ife (.cmp .Lt (.var 1) (.bif .len [(.var 0)])) (.idx (.var 0) (.var 1)) (.cst (.int 0)))) [some (.scr ns), some (.int p), none, none, none] h = some (.nx, [some (.scr ns), some (.int p), some (.int c), none, none], h) := by
  rw [x_asg, hc]
  rfl
theorem sr_s2 {k : Nat} {ns : List Int} {p : Nat} {h : MH} {c l : Int} (hl : (sem (orc SY k) (.ife (.cmp .GtE (.bif .abs [(.var 2)]) (.bin .Pow (.cst (.int 10)) (.cst (.int 18)))) (.bif .abs [(.var 2)]) (.cst (.int 0)))).v [some (.scr ns), some (.int p), some (.int c), none, none] h = some (.int l, h)) : exec (orc SY k) (.asg (.nm 3) (.ife (.cmp .GtE (.bif .abs [(.var 2)]) (.bin .Pow (.cst (.int 10)) (.cst (.int 18)))) (.bif .abs [(.var 2)]) (.cst (.int 0)))) [some (.scr ns), some (.int p), some (.int c), none, none] h = some (.nx, [some (.scr ns), some (.int p), some (.int c), some (.int l), none], h) := by
  rw [x_asg, hl]
  rfl
theorem takeG_nm (i : Nat) (v : D) (h : MH) (σ : En) : takeG (.nm i) v h σ = some (σ.set i (some v)) := rfl
theorem sr_s3 {O : Orc} {ns : List Int} {p c l M A B E u v w : Int} {h : MH} (p1 : binD .Mod (.int c) (.int M) h = some (.int (c % M))) (p2 : binD .Mult (.int A) (.int p) h = some (.int u)) (p3 : binD .Mult (.int u) (.int p) h = some (.int v)) (p4 : binD .Mult (.int B) (.int p) h = some (.int w)) : exec O (.asg (.nm 4) (.bin .Add (.bin .Add (.bin .Add (.bin .Mod (.var 2) (.cst (.int M))) (.bin .Mult (.bin .Mult (.cst (.int A)) (.var 1)) (.var 1))) (.bin .Mult (.cst (.int B)) (.var 1))) (.cst (.int E)))) [some (.scr ns), some (.int p), some (.int c), some (.int l), none] h = some (.nx, [some (.scr ns), some (.int p), some (.int c), some (.int l), some (.int (c % M + v + w + E))], h) := by
  simp only [x_asg, v_bin, two, v_var, v_cst, List.getElem?_cons_succ, List.getElem?_cons_zero, p1, p2, p3, p4, add_i, Option.map_some, takeG_nm, List.set_cons_succ, List.set_cons_zero]
theorem sr_p {h : MH} {p : Nat} (hp : p ≤ 63) : binD .Mult (.int 5003) (.int (p : Int)) h = some (.int (5003 * (p : Int))) ∧ binD .Mult (.int (5003 * (p : Int))) (.int (p : Int)) h = some (.int (5003 * (p : Int) * p)) ∧ binD .Mult (.int 97) (.int (p : Int)) h = some (.int (97 * (p : Int))) :=
  ⟨mul_l h (by decide) (by decide), mul_r h (by omega) (by omega), mul_l h (by decide) (by decide)⟩
theorem sr_s4 {O : Orc} {ns : List Int} {p c l mx M E X R Z : Int} {h : MH} (p5 : binD .Pow (.int mx) (.int E) h = some (.int X)) (p6 : binD .Mod (.int X) (.int M) h = some (.int R)) : exec O (.ret (.lst false [(.var 3), (.bin .Mod (.bin .Pow (.var 4) (.cst (.int E))) (.cst (.int M))), (.cst (.int Z))])) [some (.scr ns), some (.int p), some (.int c), some (.int l), some (.int mx)] h = some (.rt (.adr h.length), [some (.scr ns), some (.int p), some (.int c), some (.int l), some (.int mx)], h ++ [.lst [.int l, .int R, .int Z]]) := by
  have e : okL 3 = true := by decide
  simp only [x_ret, v_lst, sems_cons, sems_nil, evs_cons, evs_nil, v_bin, two, v_var, v_cst, List.getElem?_cons_succ, List.getElem?_cons_zero, p5, p6, Option.map_some, List.length_cons, List.length_nil, Nat.zero_add, Nat.reduceAdd, e, if_true, newL]
  rfl
theorem sr_run {O : Orc} {ns : List Int} {p : Nat} {h : MH} {M1 M2 : Int} {σ : En} {r : D} {h' : MH} {a b c d : MS} {σ1 σ2 σ3 : En} (e1 : exec O a [some (.scr ns), some (.int p), none, none, none] h = some (.nx, σ1, h)) (e2 : exec O b σ1 h = some (.nx, σ2, h)) (e3 : exec O c σ2 h = some (.nx, σ3, h)) (e4 : exec O d σ3 h = some (.rt r, σ, h')) : runD O 5 [a, b, c, d] [.scr ns, .int p] h = some (r, h') := by
  have e : execs O [a, b, c, d] [some (.scr ns), some (.int p), none, none, none] h = some (.rt r, σ, h') := by
    simp only [xs_cons, e1, e2, e3, e4]
  show (match execs O [a, b, c, d] [some (.scr ns), some (.int p), none, none, none] h with
    | some (.rt d, _, h1) => some (d, h1)
    | some (.nx, _, h1) => some (.non, h1)
    | _ => none) = _
  rw [e]
theorem src_core {k : Nat} {ns : List Int} {p : Nat} {h : MH} {c : Int} (hp : p ≤ 63) (hc : (sem (orc SY k) (.ife (.cmp .Lt (.var 1) (.bif .len [(.var 0)])) (.idx (.var 0) (.var 1)) (.cst (.int 0)))).v [some (.scr ns), some (.int p), none, none, none] h = some (.int c, h)) :
    ∃ s, cl (k + 1) 4 [.scr ns, .int p] h = some (.adr h.length, h ++ [s]) ∧ Src 0 s := by
  obtain ⟨l, l0, hl⟩ := lg1 (O := orc SY k) (ns := ns) (p := p) (h := h) (c := c)
  obtain ⟨q0, q1⟩ := src_num (c := c) hp rfl
  have b0 : ∀ x : Int, 0 ≤ x % 2147483587 := fun x => Int.emod_nonneg _ (by decide)
  have b1 : ∀ x : Int, x % 2147483587 < 2147483587 := fun x => Int.emod_lt_of_pos _ (by decide)
  obtain ⟨p2, p3, p4⟩ := sr_p (h := h) hp
  have s3 := sr_s3 (O := orc SY k) (ns := ns) (l := l) (E := 3) (mod_i (x := c) (y := 2147483629) h (by decide)) p2 p3 p4
  generalize c % 2147483629 + 5003 * (p : Int) * p + 97 * p + 3 = mx at s3 q0 q1
  have s4 := sr_s4 (O := orc SY k) (ns := ns) (p := p) (c := c) (l := l) (Z := 0) (pow3 h q1) (mod_i (x := mx ^ 3) (y := 2147483587) h (by decide))
  have e := sr_run (M1 := 0) (M2 := 0) (sr_s1 hc) (sr_s2 hl) s3 s4
  have b2 := b1 (mx ^ 3)
  refine ⟨_, ?_, _, _, _, rfl, l0, b0 (mx ^ 3), ?_, Int.le_refl 0, Int.le_refl 0⟩
  · rw [source_eq]
    unfold b__law_source
    rw [e]
    rfl
  · generalize mx ^ 3 % 2147483587 = y at b2 ⊢
    omega
theorem source_ok {k : Nat} {ns : List Int} {p : Nat} {h : MH} (hp : p ≤ 63) : ∃ s, cl (k + 1) 4 [.scr ns, .int p] h = some (.adr h.length, h ++ [s]) ∧ Src 0 s := by
  by_cases hlt : p < ns.length
  · have hi : (ns.map D.int)[p]? = some (.int ns[p]) := by rw [List.getElem?_map, List.getElem?_eq_getElem hlt]; rfl
    have e1 : ix (ns.map D.int).length (p : Int) = some p := by
      unfold ix
      rw [if_pos (by omega), if_pos (by rw [List.length_map]; omega)]
      rfl
    have hx : idxD (.scr ns) (.int p) h = some (.int ns[p]) := by
      show (match ix (ns.map D.int).length (p : Int) with
        | some j => (ns.map D.int)[j]?
        | none => none) = _
      rw [e1]
      exact hi
    have hlt2 : (p : Int) < (ns.length : Int) := by omega
    refine src_core hp (c := ns[p]) ?_
    simp [bifS, bifD, lenB, seqD, two, cmpB, cmpD, cmpI, ifV, truS, truD, hlt, hx]
  · have hlt2 : ¬ (p : Int) < (ns.length : Int) := by omega
    refine src_core hp (c := 0) ?_
    simp [bifS, bifD, lenB, seqD, two, cmpB, cmpD, cmpI, ifV, truS, truD, hlt]
end EV

set_option Elab.async false
set_option linter.all false
set_option maxRecDepth 100000
set_option maxHeartbeats 4000000
namespace EV
open PySem
def LS (s : S) : Bool := s.all isL
theorem names_eq (k : Nat) (x y : D) (h : MH) : cl (k + 1) 6 [x, y] h = (runD (orc SY k) 11 b__law_names [x, y] h).bind (fin false h.length) := rfl
theorem lets_len : lets.length = 26 := rfl
/-- a letter drawn -/
theorem let_at {h : MH} {d : Int} (h0 : 0 ≤ d) (h1 : d < 26) : ∃ c, isL c = true ∧ idxD (.str lets) (.int d) h = some (.str [c]) := by
  have hx : ix lets.length d = some d.toNat := by
    unfold ix
    rw [if_pos h0, if_pos (show d < ((lets.length : Nat) : Int) by rw [lets_len]; omega)]
  have hl : d.toNat < lets.length := by show d.toNat < 26; omega
  refine ⟨lets[d.toNat], ?_, ?_⟩
  · unfold isL
    rw [List.contains_iff_mem]
    exact List.getElem_mem _
  · show (match ix lets.length d with
      | some j => match lets[j]? with
        | some c => some (D.str [c])
        | none => none
      | none => none) = _
    rw [hx]
    dsimp only
    rw [List.getElem?_eq_getElem hl]
theorem okS_LS {s : S} (h : LS s = true) (hl : s.length ≤ 100000) : okS s = true := by
  unfold okS
  rw [Bool.and_eq_true]
  refine ⟨decide_eq_true hl, ?_⟩
  unfold LS at h
  rw [List.all_eq_true] at h ⊢
  intro c hc
  have h2 := h c hc
  refine decide_eq_true ?_
  unfold isL at h2
  rw [List.contains_iff_mem] at h2
  have : ∀ c ∈ lets, c < 128 := by decide
  exact this c h2
theorem LS_app {a b : S} (ha : LS a = true) (hb : LS b = true) : LS (a ++ b) = true := by
  unfold LS at *
  rw [List.all_append, ha, hb]
  rfl
theorem LS_one {c : Nat} (h : isL c = true) : LS [c] = true := by
  unfold LS
  rw [List.all_cons, h]
  rfl
theorem add_str {a b : S} {h : MH} (ho : okS (a ++ b) = true) : binD .Add (.str a) (.str b) h = some (.str (a ++ b)) := by
  show (if okS (a ++ b) then some (D.str (a ++ b)) else none) = _
  rw [if_pos ho]
/-- the stem's loop -/
def nmS (i : Nat) (m f z : Int) (st : S) (w : Option D) : En := [some (.adr i), some (.int m), some (.str lets), some (.str st), w, none, none, some (.int z), some (.int f), none, none]
def nmB : List MS := [.asg (.nm 3) (.bin .Add (.var 3) (.idx (.var 2) (.call 5 [(.var 0), (.cst (.int 26))])))]
theorem stem_step {k n i : Nat} {h : MH} {m f z : Int} {st : S} {w : Option D} {x : D} (a : AtH n i h) (hn : n ≤ 2 ^ 60) (hL : LS st = true) (hl : st.length < 1000) :
    ∃ c h', (match takeG (.nm 4) x h (nmS i m f z st w) with
        | some σ1 => execs (orc SY (k + 1)) nmB σ1 h
        | none => none) = some (.nx, nmS i m f z (st ++ [c]) (some x), h') ∧ isL c = true ∧ Adv (n + 1) i h h' := by
  obtain ⟨d, h1, e1, d0, d1, A1⟩ := draw (k := k) (m := 26) a hn (by decide) (by decide)
  obtain ⟨c, hc, e2⟩ := let_at (h := h1) d0 d1
  have e3 := add_str (h := h1) (okS_LS (LS_app hL (LS_one hc)) (by simp; omega))
  refine ⟨c, h1, ?_, hc, A1⟩
  have hf := isF' (k + 1) 5 (by decide)
  simp only [takeG_nm, nmB, nmS, List.set_cons_succ, List.set_cons_zero]
  simp [xs_cons, two, hf, e1, e2, e3, takeG_nm]
theorem stem_loop {k i : Nat} {m f z : Int} : ∀ (xs : List D) {n : Nat} {h : MH} {st : S} {w : Option D}, AtH n i h → n + xs.length ≤ 2 ^ 60 → LS st = true → st.length + xs.length < 1000 →
    ∃ st' w' h', loop (fun x σ h => match takeG (.nm 4) x h σ with
        | some σ1 => execs (orc SY (k + 1)) nmB σ1 h
        | none => none) xs (nmS i m f z st w) h = some (.nx, nmS i m f z st' w', h') ∧ LS st' = true ∧ st'.length = st.length + xs.length ∧ Adv (n + xs.length) i h h'
  | [], n, h, st, w, a, hn, hL, hl => ⟨st, w, h, rfl, hL, rfl, a.refl⟩
  | x :: xs, n, h, st, w, a, hn, hL, hl => by
    simp only [List.length_cons] at hn hl
    obtain ⟨c, h1, e1, hc, A1⟩ := stem_step (k := k) (m := m) (f := f) (z := z) (w := w) (x := x) a (by omega) hL (by omega)
    obtain ⟨st', w', h', e2, hL', hl', A2⟩ := stem_loop (k := k) (m := m) (f := f) (z := z) xs (n := n + 1) (h := h1) (st := st ++ [c]) (w := some x) A1.at (by omega) (LS_app hL (LS_one hc)) (by simp; omega)
    refine ⟨st', w', h', ?_, hL', by simp at hl' ⊢; omega, (A1.trans A2).mono (by simp; omega)⟩
    unfold loop
    rw [e1]
    exact e2
/-- one of the names -/
theorem cut_lo {s : S} {d : Int} (h0 : 0 ≤ d) (h1 : d ≤ s.length) : cut s none (some d) = s.take d.toNat := by
  have e1 : sx s.length 0 none = 0 := rfl
  have e2 : sx s.length s.length (some d) = d.toNat := by
    unfold sx
    dsimp only
    rw [if_neg (by omega)]
    omega
  unfold cut
  rw [e1, e2]
  simp
theorem cut_hi {s : S} {d : Int} (h0 : 0 ≤ d) (h1 : d ≤ s.length) : cut s (some d) none = s.drop d.toNat := by
  have e1 : sx s.length 0 (some d) = d.toNat := by
    unfold sx
    dsimp only
    rw [if_neg (by omega)]
    omega
  have e2 : sx s.length s.length none = s.length := rfl
  unfold cut
  rw [e1, e2]
  rw [List.take_of_length_le]
  simp
def lett (x : Int) : Nat := lets.getD x.toNat 0
theorem let_i {h : MH} {d : Int} (h0 : 0 ≤ d) (h1 : d < 26) : idxD (.str lets) (.int d) h = some (.str [lett d]) ∧ isL (lett d) = true := by
  obtain ⟨c, hc, e⟩ := let_at (h := h) h0 h1
  have hx : ix lets.length d = some d.toNat := by
    unfold ix
    rw [if_pos h0, if_pos (show d < ((lets.length : Nat) : Int) by rw [lets_len]; omega)]
  have hl : d.toNat < lets.length := by show d.toNat < 26; omega
  have e2 : idxD (.str lets) (.int d) h = some (.str [lett d]) := by
    show (match ix lets.length d with
      | some j => match lets[j]? with
        | some c => some (D.str [c])
        | none => none
      | none => none) = _
    rw [hx]
    dsimp only
    unfold lett
    rw [List.getD_eq_getElem?_getD, List.getElem?_eq_getElem hl]
    rfl
  refine ⟨e2, ?_⟩
  rw [e] at e2
  cases e2
  exact hc
def nmOf (st : S) (sp f : Int) (j : Int) : S := st.take sp.toNat ++ [lett ((f + 3 * j) % 26)] ++ st.drop sp.toNat
theorem nmOf_ok {st : S} {sp f j : Int} (hL : LS st = true) : LS (nmOf st sp f j) = true ∧ (nmOf st sp f j).length = st.length + 1 := by
  have h1 : 0 ≤ (f + 3 * j) % 26 := Int.emod_nonneg _ (by decide)
  have h2 : (f + 3 * j) % 26 < 26 := Int.emod_lt_of_pos _ (by decide)
  have ht : LS (st.take sp.toNat) = true := by
    unfold LS at *
    rw [List.all_eq_true] at *
    exact fun x hx => hL x (List.mem_of_mem_take hx)
  have hd : LS (st.drop sp.toNat) = true := by
    unfold LS at *
    rw [List.all_eq_true] at *
    exact fun x hx => hL x (List.mem_of_mem_drop hx)
  refine ⟨LS_app (LS_app ht (LS_one (let_i (h := []) h1 h2).2)) hd, ?_⟩
  unfold nmOf
  simp
  omega
end EV

set_option Elab.async false
set_option linter.all false
set_option maxRecDepth 100000
set_option maxHeartbeats 4000000
namespace EV
open PySem
theorem x_for {O : Orc} {g : MG} {it : ME} {body : List MS} {σ : En} {h : MH} : exec O (.forS g it body) σ h = match (sem O it).w σ h with
    | some (xs, h1) => loop (fun x σ h => match takeG g x h σ with
        | some σ1 => execs O body σ1 h
        | none => none) xs σ h1
    | none => none := rfl
def nmT (i : Nat) (m f z sp : Int) (st : S) (w x6 : Option D) : En := [some (.adr i), some (.int m), some (.str lets), some (.str st), w, some (.int sp), x6, some (.int z), some (.int f), none, none]
def nmE : ME := .bin .Add (.bin .Add (.slc (.var 3) none (some (.var 5))) (.idx (.var 2) (.bin .Mod (.bin .Add (.var 8) (.bin .Mult (.cst (.int 3)) (.var 9))) (.cst (.int 26))))) (.slc (.var 3) (some (.var 5)) none)
theorem nm_item {O : Orc} {i : Nat} {m f z sp q : Int} {st : S} {w : Option D} {h : MH} (h0 : 0 ≤ sp) (h1 : sp ≤ st.length) (hL : LS st = true) (hl : st.length < 1000) :
    gath (.nm 9) (sems O []) (sem O nmE) (wipeE (nmT i m f z sp st w none) (slotsG (.nm 9))) (.int q) h = some (some (.str (nmOf st sp f q)), h) := by
  have q1 : 0 ≤ (f + 3 * q) % 26 := Int.emod_nonneg _ (by decide)
  have q2 : (f + 3 * q) % 26 < 26 := Int.emod_lt_of_pos _ (by decide)
  obtain ⟨hi, hc⟩ := let_i (h := h) q1 q2
  obtain ⟨o1, o2⟩ := nmOf_ok (sp := sp) (f := f) (j := q) hL
  have m1 : binD .Mult (.int 3) (.int q) h = some (.int (3 * q)) := mul_l h (by decide) (by decide)
  have m2 : binD .Mod (.int (f + 3 * q)) (.int 26) h = some (.int ((f + 3 * q) % 26)) := mod_i h (by decide)
  have ht : LS (st.take sp.toNat) = true := by
    unfold LS at *
    rw [List.all_eq_true] at *
    exact fun x hx => hL x (List.mem_of_mem_take hx)
  have a1 : binD .Add (.str (st.take sp.toNat)) (.str [lett ((f + 3 * q) % 26)]) h = some (.str (st.take sp.toNat ++ [lett ((f + 3 * q) % 26)])) := add_str (okS_LS (LS_app ht (LS_one hc)) (by simp; omega))
  have a2 : binD .Add (.str (st.take sp.toNat ++ [lett ((f + 3 * q) % 26)])) (.str (st.drop sp.toNat)) h = some (.str (nmOf st sp f q)) := add_str (okS_LS o1 (by have : (st.take sp.toNat ++ [lett ((f + 3 * q) % 26)] ++ st.drop sp.toNat).length = _ := o2; omega))
  have g1 : (wipeE (nmT i m f z sp st w none) (slotsG (.nm 9))).set 9 (some (.int q)) = [some (.adr i), some (.int m), some (.str lets), some (.str st), w, some (.int sp), none, some (.int z), some (.int f), some (.int q), none] := rfl
  unfold gath
  rw [takeG_nm]
  dsimp only
  rw [g1]
  simp only [sems_nil, tests]
  generalize (3 : Int) * q = y at *
  simp only [nmE, v_bin, two, v_slc, semo_none, semo_some, part, v_var, v_idx, v_cst, List.getElem?_cons_succ, List.getElem?_cons_zero, slcD, cut_lo h0 h1, cut_hi h0 h1, Option.map_some, m1, add_i, m2, hi, a1, a2]
theorem resD_len {s : S} (h : (resD.any fun z => deq z (.str s)) = true) : 2 ≤ s.length ∧ s.length ≤ 4 ∧ s.getLast? ≠ some 113 := by
  rw [List.any_eq_true] at h
  obtain ⟨z, hz, e⟩ := h
  have key : ∀ z ∈ resD, ∃ r : S, z = .str r ∧ 2 ≤ r.length ∧ r.length ≤ 4 ∧ r.getLast? ≠ some 113 := by
    intro z hz
    simp only [resD, List.mem_cons, List.not_mem_nil, or_false] at hz
    rcases hz with rfl | rfl | rfl | rfl | rfl | rfl | rfl <;> exact ⟨_, rfl, by decide, by decide, by decide⟩
  obtain ⟨r, rfl, k1, k2, k3⟩ := key z hz
  have e2 : (r == s) = true := e
  rw [beq_iff_eq] at e2
  subst e2
  exact ⟨k1, k2, k3⟩
theorem isNS_of {s : S} (h1 : 1 ≤ s.length) (h2 : s.length ≤ 8) (h3 : LS s = true) (h4 : (resD.any fun z => deq z (.str s)) = false) : isNS s = true := by
  unfold isNS
  rw [decide_eq_true h1, decide_eq_true h2, h4]
  exact h3
theorem in_res2 {O : Orc} {s : S} {h : MH} {σ : En} {v : ME} (hv : (sem O v).v σ h = some (.str s, h)) : (sem O (.cmp .In v (.tup [(.cst (.str [110, 101, 119])), (.cst (.str [110, 111, 110, 101])), (.cst (.str [105, 102])), (.cst (.str [105, 115])), (.cst (.str [110, 111, 116])), (.cst (.str [115, 101, 108, 102])), (.cst (.str [99, 108, 115]))]))).v σ h = some (.bl (resD.any fun z => deq z (.str s)), h) := by
  have hr : (sem O (.tup [(.cst (.str [110, 101, 119])), (.cst (.str [110, 111, 110, 101])), (.cst (.str [105, 102])), (.cst (.str [105, 115])), (.cst (.str [110, 111, 116])), (.cst (.str [115, 101, 108, 102])), (.cst (.str [99, 108, 115]))])).v σ h = some (.tup resD, h) := rfl
  rw [v_cmp]
  unfold two
  rw [hv]
  dsimp only
  rw [hr]
  dsimp only
  unfold cmpB cmpD
  dsimp only
  rw [in_res]
  rfl
theorem allB_s (p : S → Bool) : ∀ ss : List S, allB (ss.map fun s => D.bl (p s)) = some (ss.map p)
  | [] => rfl
  | s :: ss => by
    show (allB (ss.map fun s => D.bl (p s))).map (p s :: ·) = _
    rw [allB_s p ss]
    rfl
def isRes (s : S) : Bool := resD.any fun z => deq z (.str s)
theorem any_res {O : Orc} {i : Nat} {m f z sp : Int} {st : S} {w : Option D} {h : MH} {ss : List S} (hl : ss.length ≤ 1000) :
    (sem O (.bif .any [(.lc true (.nm 10) (.var 6) [] (.cmp .In (.var 10) (.tup [(.cst (.str [110, 101, 119])), (.cst (.str [110, 111, 110, 101])), (.cst (.str [105, 102])), (.cst (.str [105, 115])), (.cst (.str [110, 111, 116])), (.cst (.str [115, 101, 108, 102])), (.cst (.str [99, 108, 115]))])))])).v (nmT i m f z sp st w (some (.lst (ss.map .str)))) h = some (.bl (ss.any isRes), h) := by
  have hw : (sem O (.var 6)).w (nmT i m f z sp st w (some (.lst (ss.map .str)))) h = some (ss.map .str, h) := by simp [nmT, itS, itD]
  have hlc := lc_map (O := O) (σ := nmT i m f z sp st w (some (.lst (ss.map .str)))) (h := h) (g := .nm 10) (fz := true) (it := .var 6) (ifs := []) (e := (.cmp .In (.var 10) (.tup [(.cst (.str [110, 101, 119])), (.cst (.str [110, 111, 110, 101])), (.cst (.str [105, 102])), (.cst (.str [105, 115])), (.cst (.str [110, 111, 116])), (.cst (.str [115, 101, 108, 102])), (.cst (.str [99, 108, 115]))]))) (fun d => match d with | .str s => .bl (isRes s) | _ => .non) hw (fun x hx => by
    obtain ⟨s, hs, rfl⟩ := List.mem_map.mp hx
    have g1 : (wipeE (nmT i m f z sp st w (some (.lst (ss.map .str)))) (slotsG (.nm 10))).set 10 (some (.str s)) = [some (.adr i), some (.int m), some (.str lets), some (.str st), w, some (.int sp), some (.lst (ss.map .str)), some (.int z), some (.int f), none, some (.str s)] := rfl
    unfold gath
    rw [takeG_nm]
    dsimp only
    rw [g1]
    simp only [sems_nil, tests]
    rw [in_res2 (s := s) (by simp)]
    rfl) (by simp; omega)
  rw [v_bif]
  unfold bifS
  rw [sems_cons, sems_nil, evs_cons, hlc]
  simp only [evs_nil, newL, if_true, List.map_map, bifD, anyB, lstD]
  have e : (ss.map ((fun d => match d with | D.str s => D.bl (isRes s) | _ => D.non) ∘ D.str)) = ss.map fun s => D.bl (isRes s) := rfl
  rw [e, allB_s]
  simp [List.any_map]
theorem q_all {O : Orc} {i : Nat} {m f z sp : Int} {st : S} {w : Option D} {h : MH} {ss : List S} (hl : ss.length ≤ 1000) (hs : ∀ s ∈ ss, LS s = true ∧ s.length ≤ 100) :
    (sem O (.lc true (.nm 10) (.var 6) [] (.bin .Add (.var 10) (.cst (.str [113]))))).v (nmT i m f z sp st w (some (.lst (ss.map .str)))) h = some (.lst ((ss.map fun s => s ++ [113]).map .str), h) := by
  have hw : (sem O (.var 6)).w (nmT i m f z sp st w (some (.lst (ss.map .str)))) h = some (ss.map .str, h) := by simp [nmT, itS, itD]
  rw [lc_map (fun d => match d with | .str s => .str (s ++ [113]) | _ => .non) hw (fun x hx => ?_) (by simp; omega)]
  · simp only [newL, if_true, List.map_map]
    rfl
  · obtain ⟨s, hs1, rfl⟩ := List.mem_map.mp hx
    obtain ⟨k1, k2⟩ := hs s hs1
    have g1 : (wipeE (nmT i m f z sp st w (some (.lst (ss.map .str)))) (slotsG (.nm 10))).set 10 (some (.str s)) = [some (.adr i), some (.int m), some (.str lets), some (.str st), w, some (.int sp), some (.lst (ss.map .str)), some (.int z), some (.int f), none, some (.str s)] := rfl
    have a1 : binD .Add (.str s) (.str [113]) h = some (.str (s ++ [113])) := add_str (okS_LS (LS_app k1 (LS_one (by decide))) (by simp; omega))
    unfold gath
    rw [takeG_nm]
    dsimp only
    rw [g1]
    simp only [sems_nil, tests, v_bin, two, v_var, v_cst, List.getElem?_cons_succ, List.getElem?_cons_zero, a1, Option.map_some]
end EV

set_option Elab.async false
set_option linter.all false
set_option maxRecDepth 100000
set_option maxHeartbeats 4000000
namespace EV
open PySem
theorem q_fine {s : S} (hL : LS s = true) (h1 : s.length = 2 ∨ s.length = 3) : isNS (s ++ [113]) = true := by
  refine isNS_of (by simp) (by simp; omega) (LS_app hL (LS_one (by decide))) ?_
  rw [Bool.eq_false_iff]
  intro h
  exact (resD_len h).2.2 (by simp)
def zD : List D := [.int 0, .int 0, .int 1, .int 2, .int 7]
theorem z_at {h : MH} {d : Int} (h0 : 0 ≤ d) (h1 : d < 5) : ∃ z : Int, idxD (.lst zD) (.int d) h = some (.int z) ∧ (z = 0 ∨ z = 1 ∨ z = 2 ∨ z = 7) := by
  obtain ⟨n, rfl⟩ := Int.eq_ofNat_of_zero_le h0
  have : n = 0 ∨ n = 1 ∨ n = 2 ∨ n = 3 ∨ n = 4 := by omega
  rcases this with rfl | rfl | rfl | rfl | rfl
  · exact ⟨0, rfl, by decide⟩
  · exact ⟨0, rfl, by decide⟩
  · exact ⟨1, rfl, by decide⟩
  · exact ⟨2, rfl, by decide⟩
  · exact ⟨7, rfl, by decide⟩
def tailN : List MS := [
  .ite (.bif .any [(.lc true (.nm 10) (.var 6) [] (.cmp .In (.var 10) (.tup [(.cst (.str [110, 101, 119])), (.cst (.str [110, 111, 110, 101])), (.cst (.str [105, 102])), (.cst (.str [105, 115])), (.cst (.str [110, 111, 116])), (.cst (.str [115, 101, 108, 102])), (.cst (.str [99, 108, 115]))])))]) [.asg (.nm 6) (.lc true (.nm 10) (.var 6) [] (.bin .Add (.var 10) (.cst (.str [113]))))] [],
  .ret (.var 6)]
theorem tail_ok {O : Orc} {i : Nat} {m f z sp : Int} {st : S} {w : Option D} {h : MH} {ss : List S} (hl : ss.length ≤ 1000) (hs : ∀ s ∈ ss, LS s = true ∧ s.length = st.length + 1) (hz : st.length = 0 ∨ st.length = 1 ∨ st.length = 2 ∨ st.length = 7) :
    ∃ (ss' : List S) (σ' : En), execs O tailN (nmT i m f z sp st w (some (.lst (ss.map .str)))) h = some (.rt (.lst (ss'.map .str)), σ', h) ∧ ss'.length = ss.length ∧ ∀ s ∈ ss', isNS s = true := by
  have ha := any_res (O := O) (i := i) (m := m) (f := f) (z := z) (sp := sp) (st := st) (w := w) (h := h) hl
  cases hb : ss.any isRes with
  | false =>
    rw [hb] at ha
    refine ⟨ss, nmT i m f z sp st w (some (.lst (ss.map .str))), ?_, rfl, fun s hs1 => ?_⟩
    · unfold tailN
      rw [xs_cons, x_ite, t_bif, truS]
      rw [v_bif] at ha
      rw [v_bif, ha]
      simp only [truD, Option.map_some, xs_nil, xs_cons, x_ret, v_var]
      rfl
    · obtain ⟨k1, k2⟩ := hs s hs1
      rw [List.any_eq_false] at hb
      exact isNS_of (by omega) (by omega) k1 (Bool.eq_false_iff.mpr (hb s hs1))
  | true =>
    rw [hb] at ha
    have hq := q_all (O := O) (i := i) (m := m) (f := f) (z := z) (sp := sp) (st := st) (w := w) (h := h) hl (fun s h1 => ⟨(hs s h1).1, by have := (hs s h1).2; omega⟩)
    refine ⟨ss.map fun s => s ++ [113], nmT i m f z sp st w (some (.lst ((ss.map fun s => s ++ [113]).map .str))), ?_, by simp, fun s hs1 => ?_⟩
    · unfold tailN
      rw [xs_cons, x_ite, t_bif, truS]
      rw [v_bif] at ha
      rw [v_bif, ha]
      simp only [truD, Option.map_some, xs_nil, xs_cons, x_asg, hq, takeG_nm, x_ret, v_var]
      rfl
    · obtain ⟨s0, h0, rfl⟩ := List.mem_map.mp hs1
      obtain ⟨k1, k2⟩ := hs s0 h0
      rw [List.any_eq_true] at hb
      obtain ⟨s1, h1, h2⟩ := hb
      obtain ⟨r1, r2, _⟩ := resD_len (s := s1) h2
      have k3 := (hs s1 h1).2
      exact q_fine k1 (by omega)
def headN : List MS := [
  .asg (.nm 2) (.cst (.str [97, 98, 99, 100, 101, 102, 103, 104, 105, 106, 107, 108, 109, 110, 111, 112, 113, 114, 115, 116, 117, 118, 119, 120, 121, 122])),
  .asg (.tp [7, 8]) (.tup [(.idx (.lst true [(.cst (.int 0)), (.cst (.int 0)), (.cst (.int 1)), (.cst (.int 2)), (.cst (.int 7))]) (.call 5 [(.var 0), (.cst (.int 5))])), (.call 5 [(.var 0), (.cst (.int 26))])]),
  .asg (.nm 3) (.cst (.str [])),
  .forS (.nm 4) (.rng1 (.var 7)) nmB,
  .asg (.nm 5) (.call 5 [(.var 0), (.bin .Add (.var 7) (.cst (.int 1)))]),
  .asg (.nm 6) (.lc true (.nm 9) (.rng1 (.var 1)) [] nmE)]
theorem execs_app {O : Orc} : ∀ {a b : List MS} {σ σ1 : En} {h h1 : MH}, execs O a σ h = some (.nx, σ1, h1) → execs O (a ++ b) σ h = execs O b σ1 h1
  | [], b, σ, σ1, h, h1, e => by cases e; rfl
  | s :: a, b, σ, σ1, h, h1, e => by
    rw [List.cons_append, xs_cons]
    rw [xs_cons] at e
    split at e
    · exact execs_app e
    · rename_i r hr
      exact absurd e (hr _ _)
theorem rng_w {O : Orc} {a : ME} {σ : En} {h : MH} {n : Int} (e : (sem O a).v σ h = some (.int n, h)) (h0 : 0 ≤ n) (h1 : n < 1000000) : (sem O (.rng1 a)).w σ h = some ((List.range n.toNat).map fun (i : Nat) => D.int (0 + i), h) := by
  rw [w_rng1, e]
  dsimp only
  rw [if_pos (decide_eq_true ⟨by omega, by omega⟩)]
theorem hn_g2 {k i : Nat} {m d1 f y : Int} {h h1 h2 : MH} (e1 : cl (k + 1) 5 [.adr i, .int 5] h = some (.int d1, h1)) (e2 : cl (k + 1) 5 [.adr i, .int 26] h1 = some (.int f, h2)) (ez : idxD (.lst zD) (.int d1) h1 = some (.int y)) : exec (orc SY (k + 1)) (.asg (.tp [7, 8]) (.tup [(.idx (.lst true [(.cst (.int 0)), (.cst (.int 0)), (.cst (.int 1)), (.cst (.int 2)), (.cst (.int 7))]) (.call 5 [(.var 0), (.cst (.int 5))])), (.call 5 [(.var 0), (.cst (.int 26))])])) [some (.adr i), some (.int m), some (.str lets), none, none, none, none, none, none, none, none] h = some (.nx, [some (.adr i), some (.int m), some (.str lets), none, none, none, none, some (.int y), some (.int f), none, none], h2) := by
  have hf := isF' (k + 1) 5 (by decide)
  have ez : idxD (.lst [.int 0, .int 0, .int 1, .int 2, .int 7]) (.int d1) h1 = some (.int y) := ez
  simp [two, hf, e1, e2, okL, newL, ez, takeG, seqD, setAll]
theorem hn_g5 {k i : Nat} {m sp f y : Int} {st : S} {w : Option D} {h3 h4 : MH} (e4 : cl (k + 1) 5 [.adr i, .int (y + 1)] h3 = some (.int sp, h4)) : exec (orc SY (k + 1)) (.asg (.nm 5) (.call 5 [(.var 0), (.bin .Add (.var 7) (.cst (.int 1)))])) (nmS i m f y st w) h3 = some (.nx, nmT i m f y sp st w none, h4) := by
  have hf := isF' (k + 1) 5 (by decide)
  simp [nmS, nmT, two, hf, e4, add_i, takeG_nm]
theorem hn_g4 {k i : Nat} {m f : Int} {y : Nat} {st : S} {w : Option D} {h2 h3 : MH} (hy : y ≤ 7) (e3 : loop (fun x σ h => match takeG (.nm 4) x h σ with
        | some σ1 => execs (orc SY (k + 1)) nmB σ1 h
        | none => none) ((List.range ((y : Int)).toNat).map fun (i : Nat) => D.int (0 + i)) (nmS i m f y [] none) h2 = some (.nx, nmS i m f y st w, h3)) : exec (orc SY (k + 1)) (.forS (.nm 4) (.rng1 (.var 7)) nmB) (nmS i m f y [] none) h2 = some (.nx, nmS i m f y st w, h3) := by
  rw [x_for, rng_w (n := (y : Int)) (by simp [nmS]) (by omega) (by omega)]
  exact e3
theorem hn_g1 {O : Orc} {i : Nat} {m : Int} {h : MH} : exec O (.asg (.nm 2) (.cst (.str [97, 98, 99, 100, 101, 102, 103, 104, 105, 106, 107, 108, 109, 110, 111, 112, 113, 114, 115, 116, 117, 118, 119, 120, 121, 122]))) [some (.adr i), some (.int m), none, none, none, none, none, none, none, none, none] h = some (.nx, [some (.adr i), some (.int m), some (.str lets), none, none, none, none, none, none, none, none], h) := rfl
theorem hn_g3 {O : Orc} {i : Nat} {m y f : Int} {h2 : MH} : exec O (.asg (.nm 3) (.cst (.str []))) [some (.adr i), some (.int m), some (.str lets), none, none, none, none, some (.int y), some (.int f), none, none] h2 = some (.nx, nmS i m f y [] none, h2) := rfl
theorem hn_all {O : Orc} {i : Nat} {m y f : Int} {h h2 h3 h4 : MH} {σ4 σ5 σ6 : En} (g2 : exec O (.asg (.tp [7, 8]) (.tup [(.idx (.lst true [(.cst (.int 0)), (.cst (.int 0)), (.cst (.int 1)), (.cst (.int 2)), (.cst (.int 7))]) (.call 5 [(.var 0), (.cst (.int 5))])), (.call 5 [(.var 0), (.cst (.int 26))])])) [some (.adr i), some (.int m), some (.str lets), none, none, none, none, none, none, none, none] h = some (.nx, [some (.adr i), some (.int m), some (.str lets), none, none, none, none, some (.int y), some (.int f), none, none], h2)) (g4 : exec O (.forS (.nm 4) (.rng1 (.var 7)) nmB) (nmS i m f y [] none) h2 = some (.nx, σ4, h3)) (g5 : exec O (.asg (.nm 5) (.call 5 [(.var 0), (.bin .Add (.var 7) (.cst (.int 1)))])) σ4 h3 = some (.nx, σ5, h4)) (g6 : exec O (.asg (.nm 6) (.lc true (.nm 9) (.rng1 (.var 1)) [] nmE)) σ5 h4 = some (.nx, σ6, h4)) : execs O headN [some (.adr i), some (.int m), none, none, none, none, none, none, none, none, none] h = some (.nx, σ6, h4) := by
  unfold headN
  rw [xs_cons, hn_g1]
  dsimp only
  rw [xs_cons, g2]
  dsimp only
  rw [xs_cons, hn_g3]
  dsimp only
  rw [xs_cons, g4]
  dsimp only
  rw [xs_cons, g5]
  dsimp only
  rw [xs_cons, g6]
  rfl
theorem head_ok {k n i : Nat} {h : MH} {m : Int} (a : AtH n i h) (hn : n + 10 ≤ 2 ^ 60) (hm0 : 0 ≤ m) (hm : m ≤ 10) :
    ∃ (ss : List S) (st : S) (f z sp : Int) (w : Option D) (h' : MH), execs (orc SY (k + 1)) headN [some (.adr i), some (.int m), none, none, none, none, none, none, none, none, none] h = some (.nx, nmT i m f z sp st w (some (.lst (ss.map .str))), h') ∧ (ss.length : Int) = m ∧ (∀ s ∈ ss, LS s = true ∧ s.length = st.length + 1) ∧ (st.length = 0 ∨ st.length = 1 ∨ st.length = 2 ∨ st.length = 7) ∧ Adv (n + 10) i h h' := by
  have hf := isF' (k + 1) 5 (by decide)
  obtain ⟨d1, h1, e1, d10, d11, A1⟩ := draw (k := k) (m := 5) a (by omega) (by decide) (by decide)
  obtain ⟨z, ez, hz⟩ := z_at (h := h1) d10 d11
  obtain ⟨f, h2, e2, f0, f1, A2⟩ := draw (k := k) (m := 26) A1.at (by omega) (by decide) (by decide)
  have hzn : ∃ y : Nat, z = y ∧ (y = 0 ∨ y = 1 ∨ y = 2 ∨ y = 7) := by
    rcases hz with rfl | rfl | rfl | rfl
    · exact ⟨0, rfl, by decide⟩
    · exact ⟨1, rfl, by decide⟩
    · exact ⟨2, rfl, by decide⟩
    · exact ⟨7, rfl, by decide⟩
  obtain ⟨y, rfl, hy⟩ := hzn
  obtain ⟨st, w, h3, e3, hL, hl, A3⟩ := stem_loop (k := k) (i := i) (m := m) (f := f) (z := y) ((List.range ((y : Int)).toNat).map fun (i : Nat) => D.int (0 + i)) (n := n + 2) (h := h2) (st := []) (w := none) A2.at (by simp; omega) rfl (by simp; omega)
  have hl : st.length = y := by simpa using hl
  have A3 : Adv (n + 2 + y) i h2 h3 := by simpa using A3
  obtain ⟨sp, h4, e4, sp0, sp1, A4⟩ := draw (k := k) (m := (y : Int) + 1) A3.at (by omega) (by omega) (by omega)
  have hlc := lc_map (O := orc SY (k + 1)) (σ := nmT i m f y sp st w none) (h := h4) (g := .nm 9) (fz := true) (it := .rng1 (.var 1)) (ifs := []) (e := nmE) (fun d => match d with | .int q => .str (nmOf st sp f q) | _ => .non) (rng_w (n := m) (by simp [nmT]) hm0 (by omega)) (fun x hx => by
    obtain ⟨q, _, rfl⟩ := List.mem_map.mp hx
    exact nm_item sp0 (by omega) hL (by omega)) (by simp; omega)
  refine ⟨(List.range m.toNat).map fun (q : Nat) => nmOf st sp f (0 + q), st, f, y, sp, w, h4, ?_, by simp; omega, fun s hs => ?_, by omega, ((A1.trans A2).trans (A3.trans A4)).mono (by omega)⟩
  · have g2 := hn_g2 (m := m) e1 e2 ez
    have g4 := hn_g4 (by omega) e3
    have g5 := hn_g5 (i := i) (m := m) (f := f) (y := (y : Int)) (st := st) (w := w) e4
    have g6 : exec (orc SY (k + 1)) (.asg (.nm 6) (.lc true (.nm 9) (.rng1 (.var 1)) [] nmE)) (nmT i m f y sp st w none) h4 = some (.nx, nmT i m f y sp st w (some (.lst (((List.range m.toNat).map fun (q : Nat) => nmOf st sp f (0 + q)).map .str))), h4) := by
      rw [x_asg, hlc]
      simp only [newL, if_true, takeG_nm, List.map_map]
      rfl
    exact hn_all g2 g4 g5 g6
  · obtain ⟨q, _, rfl⟩ := List.mem_map.mp hs
    exact nmOf_ok hL
theorem names_ok {k n i : Nat} {h : MH} {m : Int} (a : AtH n i h) (hn : n + 10 ≤ 2 ^ 60) (hm0 : 0 ≤ m) (hm : m ≤ 10) :
    ∃ (ss : List S) (h' : MH), cl (k + 2) 6 [.adr i, .int m] h = some (.lst (ss.map .str), h') ∧ (ss.length : Int) = m ∧ (∀ s ∈ ss, isNS s = true) ∧ Adv (n + 10) i h h' := by
  obtain ⟨ss, st, f, z, sp, w, h', e, l1, l2, l3, A⟩ := head_ok (k := k) a hn hm0 hm
  obtain ⟨ss', σ', e2, l4, l5⟩ := tail_ok (O := orc SY (k + 1)) (i := i) (m := m) (f := f) (z := z) (sp := sp) (st := st) (w := w) (h := h') (ss := ss) (by omega) l2 l3
  refine ⟨ss', h', ?_, by omega, l5, A⟩
  have e3 : execs (orc SY (k + 1)) b__law_names [some (.adr i), some (.int m), none, none, none, none, none, none, none, none, none] h = some (.rt (.lst (ss'.map .str)), σ', h') := by
    have : b__law_names = headN ++ tailN := rfl
    rw [this, execs_app e]
    exact e2
  rw [names_eq]
  show (match execs (orc SY (k + 1)) b__law_names [some (.adr i), some (.int m), none, none, none, none, none, none, none, none, none] h with
    | some (.rt d, _, h1) => some (d, h1)
    | some (.nx, _, h1) => some (.non, h1)
    | _ => none).bind (fin false h.length) = _
  rw [e3]
  rfl
end EV

set_option Elab.async false
set_option linter.all false
set_option maxRecDepth 100000
set_option maxHeartbeats 1000000
namespace EV
open PySem
/-! ## steps -/
class Sy (O : Orc) : Prop where
  isF : O.isF = SY.isF
  glb : O.glb = SY.glb
  okF : O.okF = SY.okF
  okM : O.okM = SY.okM
  okX : O.okX = SY.okX
instance (k : Nat) : Sy (orc SY k) := ⟨orc_isF _ _, orc_glb _ _, orc_okF _ _, orc_okM _ _, orc_okX _ _⟩
section
variable {O : Orc} [Sy O] {σ : En} {h : MH} {es : List ME} {o e : ME} {Q : D → MH → Prop} {c f : Nat}
theorem W2.callS (hf : SY.isF f = true) (w : W2 (evs (sems O es) σ h) fun ds h1 => W2 (O.call f ds h1) Q) : W2 ((sem O (.call f es)).v σ h) Q := W2.call (by rw [Sy.isF]; exact hf) w
theorem W2.cmtS (hf : SY.okX 2 c f = true) (w : W2 (evs (sems O es) σ h) fun ds h1 => W2 (O.call f (.cls c :: ds) h1) Q) : W2 ((sem O (.cmt c f es)).v σ h) Q := W2.cmt (by rw [Sy.okX]; exact hf) w
theorem W2.mkC (hf : SY.okX 0 c f = true) (w : W2 (evs (sems O es) σ h) fun ds h1 => W2 (EV.mkR c (O.call f) ds h1) Q) : W2 ((sem O (.mk c f es)).v σ h) Q := W2.mk (by rw [Sy.okX]; exact hf) w
theorem W2.mk0C (hf : SY.okX 0 c f = true) (w : W2 (EV.mkR c (O.call f) [] h) Q) : W2 ((sem O (.mk0 c f)).v σ h) Q := W2.mk0 (by rw [Sy.okX]; exact hf) w
theorem W2.mkSC (hf : SY.okX 0 c f = true) (w : W2 ((sem O o).v σ h) fun x h1 => x = .cls c ∧ W2 ((sem O e).v σ h1) fun d h2 => ∃ xs, seqD h2 d = some xs ∧ W2 (EV.mkR c (O.call f) xs h2) Q) : W2 ((sem O (.mkS c f o e)).v σ h) Q := W2.mkS (by rw [Sy.okX]; exact hf) w
theorem okL_and {n : Nat} {P : Prop} (a : okL n = true) (p : P) : okL n = true ∧ P := ⟨a, p⟩
theorem W2.lenL {xs : List D} (q : Q (.int xs.length) h) : W2 (bifD .len [.lst xs] h) Q := .eq rfl q
theorem W2.lenT {xs : List D} (q : Q (.int xs.length) h) : W2 (bifD .len [.tup xs] h) Q := .eq rfl q
end
local macro_rules | `(tactic| walk_at "w") => `(tactic| first | ((with_reducible apply W2.var); exact rfl) | with_reducible apply W2.cst | with_reducible apply W2.evnil | with_reducible apply W2.evcons | with_reducible apply W2.tup | with_reducible apply W2.lstT | with_reducible apply W2.lstF | with_reducible apply W2.bin | with_reducible apply W2.idx | with_reducible apply W2.cmpT | with_reducible apply W2.cmp | with_reducible apply W2.neg | with_reducible apply W2.ntT | with_reducible apply W2.nt | with_reducible apply W2.and1T | with_reducible apply W2.andT | with_reducible apply W2.or1T | with_reducible apply W2.orT | with_reducible apply W2.and1 | with_reducible apply W2.and | with_reducible apply W2.ife | with_reducible apply W2.pNone | with_reducible apply W2.pSome | with_reducible apply W2.slc | with_reducible apply W2.isi | ((with_reducible apply W2.callS); exact rfl) | ((with_reducible apply W2.cmtS); exact rfl) | ((with_reducible apply W2.mkC); exact rfl) | ((with_reducible apply W2.mk0C); exact rfl) | ((with_reducible apply W2.mkSC); exact rfl) | with_reducible apply W2.bif | with_reducible apply W2.bim | with_reducible apply W2.att | with_reducible apply W2.meth | with_reducible apply W2.kmt | with_reducible apply W2.prp | with_reducible apply W2.sob | with_reducible apply W2.lno | with_reducible apply W2.eqo | with_reducible apply W2.isc | with_reducible apply W2.frz | with_reducible apply W2.gcl | with_reducible apply W2.rng1 | with_reducible apply W2.enm | ((with_reducible apply okL_and); exact rfl) | ((with_reducible apply W2.tV); exact rfl) | ((with_reducible apply W2.wV); exact rfl) | with_reducible apply W1.truB | with_reducible apply W1.itL | with_reducible apply W1.itT | with_reducible apply W1.add | with_reducible apply W1.sub | with_reducible apply W1.lt | with_reducible apply W1.le | with_reducible apply W1.gt | with_reducible apply W1.ge | with_reducible apply W1.eqI | with_reducible apply W1.neI | with_reducible apply W1.eqS | with_reducible apply W1.neS | with_reducible apply W1.isN | with_reducible apply W1.notN | with_reducible apply W1.isB | with_reducible apply W2.finF | with_reducible apply W2.lenT | with_reducible apply W2.lenL | with_reducible apply W3.cons | with_reducible apply W3.nil | with_reducible apply W3.asg | with_reducible apply W3.asgT | with_reducible apply W3.par | with_reducible apply W3.ex | with_reducible apply W3.ret | with_reducible apply W3.pas | with_reducible apply W3.ite | with_reducible apply W3.fset | with_reducible apply W3.for | with_reducible apply W3.forE | with_reducible apply Kn.nx | with_reducible apply Kn.rt | with_reducible apply W3.turnN)
local macro_rules | `(tactic| walk_at "env") => `(tactic| simp only [List.map_cons, List.map_nil, List.length_cons, List.length_nil, Nat.zero_add, Nat.reduceAdd, Nat.reduceSub, List.reduceReplicate, List.cons_append, List.nil_append, List.set_cons_zero, List.set_cons_succ])
/-! ### draws -/
class Dr (O : Orc) : Prop where
  draw : ∀ (n i : Nat) (h : MH) (m : Int), AtH n i h → n ≤ 2 ^ 60 → 0 < m → m < 1073741824 → W2 (O.call 5 [.adr i, .int m] h) fun d h' => ∃ v, d = .int v ∧ 0 ≤ v ∧ v < m ∧ Adv (n + 1) i h h'
instance (k : Nat) : Dr (orc SY (k + 1)) := ⟨fun n i h m a hn h1 h2 => by
  obtain ⟨d, h', e, d0, d1, A⟩ := draw (k := k) a hn h1 h2
  exact .eq e ⟨d, rfl, d0, d1, A⟩⟩
theorem idx_at {xs : List D} {d : Int} {h : MH} {P : D → Prop} (h0 : 0 ≤ d) (h1 : d < xs.length) (q : ∀ x, xs[d.toNat]? = some x → P x) : W1 (idxD (.lst xs) (.int d) h) P := by
  have hl : d.toNat < xs.length := by omega
  have hx : ix xs.length d = some d.toNat := by
    unfold ix
    rw [if_pos h0, if_pos h1]
  refine .eq ?_ (q _ (List.getElem?_eq_getElem hl))
  show (match ix xs.length d with
    | some j => xs[j]?
    | none => none) = _
  rw [hx]
  exact List.getElem?_eq_getElem hl
/-- one of a list of texts, drawn -/
theorem W2.pick {O : Orc} [Sy O] [Dr O] {i j n : Nat} {ss : List S} {σ : En} {h : MH} {Q : D → MH → Prop} (s0 : σ[0]? = some (some (.adr i))) (sj : σ[j]? = some (some (.lst (ss.map .str)))) (a : AtH n i h) (hn : n ≤ 2 ^ 60) (h0 : 0 < ss.length) (h1 : ss.length < 1000)
    (q : ∀ s h', s ∈ ss → Adv (n + 1) i h h' → Q (.str s) h') : W2 ((sem O (.idx (.var j) (.call 5 [(.var 0), (.bif .len [(.var j)])]))).v σ h) Q := by
  apply W2.idx
  apply W2.var sj
  apply W2.callS rfl
  apply W2.evcons
  apply W2.var s0
  apply W2.evcons
  apply W2.bif
  apply W2.evcons
  apply W2.var sj
  apply W2.evnil
  apply W2.lenL
  apply W2.evnil
  refine (Dr.draw (O := O) n i h _ a hn (by rw [List.length_map]; omega) (by rw [List.length_map]; omega)).mono fun d h' ⟨v, e, v0, v1, A⟩ => ?_
  subst e
  refine idx_at v0 v1 fun x hx => ?_
  rw [List.getElem?_map] at hx
  obtain ⟨s, hs, rfl⟩ := Option.map_eq_some_iff.mp hx
  exact q s h' (List.mem_of_getElem? hs) A
/-! ### plain rows of names and fields -/
inductive PR (ss fs : List S) : D → Prop
  | ld {a b f : S} : a ∈ ss → b ∈ ss → f ∈ fs → PR ss fs (.tup [.str [108, 111, 97, 100], .str a, .str b, .str f])
  | st {a b f : S} : a ∈ ss → b ∈ ss → f ∈ fs → PR ss fs (.tup [.str [115, 116, 111, 114, 101], .str a, .str f, .str b])
  | cp {a b : S} : a ∈ ss → b ∈ ss → PR ss fs (.tup [.str [99, 111, 112, 121], .str a, .str b])
  | nw {a : S} : a ∈ ss → PR ss fs (.tup [.str [110, 101, 119], .str a])
  | nn {a : S} : a ∈ ss → PR ss fs (.tup [.str [110, 111, 110, 101], .str a])
theorem prow_eq (k : Nat) (x y z : D) (h : MH) : cl (k + 1) 7 [x, y, z] h = (runD (orc SY k) 7 b__law_plain [x, y, z] h).bind (fin false h.length) := rfl
structure NS (ss : List S) : Prop where
  p : 0 < ss.length
  l : ss.length ≤ 4
  n : ∀ s ∈ ss, isNS s = true
theorem prow_run {O : Orc} [Sy O] [Dr O] {n i N0 : Nat} {h : MH} {ss fs : List S} (a : AtH n i h) (hn : n + 10 ≤ 2 ^ 60) (hs : NS ss) (hf : NS fs) : W2 ((runD O 7 b__law_plain [.adr i, .lst (ss.map .str), .lst (fs.map .str)] h).bind (fin false N0)) fun r h' => PR ss fs r ∧ Adv (n + 4) i h h' := by
  have s0 := hs.p
  have s1 := hs.l
  have f0 := hf.p
  have f1 := hf.l
  apply W2.run
  walk_at "env"
  unfold b__law_plain
  apply W3.cons
  apply W3.par
  apply W2.evcons
  refine W2.pick (by rfl) (by rfl) a (by omega) (by omega) (by omega) fun x h1 m1 A1 => ?_
  apply W2.evcons
  refine W2.pick (by rfl) (by rfl) A1.at (by omega) (by omega) (by omega) fun y h2 m2 A2 => ?_
  walk_at "w"
  refine ⟨_, rfl, ?_⟩
  walk_at "w"
  apply W3.cons
  apply W3.par
  apply W2.evcons
  refine W2.pick (by rfl) (by rfl) A2.at (by omega) (by omega) (by omega) fun z h3 m3 A3 => ?_
  repeat walk_at "w"
  refine (Dr.draw (O := O) _ i h3 8 A3.at (by omega) (by decide) (by decide)).mono fun d h4 ⟨v, e, v0, v1, A4⟩ => ?_
  subst e
  have A : Adv (n + 4) i h h4 := A1.trans (A2.trans (A3.trans A4))
  walk_at "w"
  refine ⟨_, rfl, ?_⟩
  repeat walk_at "w"
  refine ⟨fun c1 => ?_, fun c1 => ?_⟩
  · repeat walk_at "w"
    exact ⟨.ld m1 m2 m3, A⟩
  repeat walk_at "w"
  refine ⟨fun c2 => ?_, fun c2 => ?_⟩
  · repeat walk_at "w"
    exact ⟨.st m1 m2 m3, A⟩
  repeat walk_at "w"
  refine ⟨fun c3 => ?_, fun c3 => ?_⟩
  · repeat walk_at "w"
    exact ⟨.cp m1 m2, A⟩
  have c3 : ¬ v < 6 := of_decide_eq_false c3
  repeat walk_at "w"
  have : v = 6 ∨ v = 7 := by omega
  rcases this with rfl | rfl
  · exact .eq rfl (W2.finF ⟨.nw m1, A⟩)
  · exact .eq rfl (W2.finF ⟨.nn m1, A⟩)
class Pl (O : Orc) : Prop where
  plain : ∀ (n i : Nat) (h : MH) (ss fs : List S), AtH n i h → n + 10 ≤ 2 ^ 60 → NS ss → NS fs → W2 (O.call 7 [.adr i, .lst (ss.map .str), .lst (fs.map .str)] h) fun r h' => PR ss fs r ∧ Adv (n + 4) i h h'
instance (k : Nat) : Pl (orc SY (k + 2)) := ⟨fun n i h ss fs a hn hs hf => prow_run (O := orc SY (k + 1)) (N0 := h.length) a hn hs hf⟩
end EV

set_option Elab.async false
set_option linter.all false
set_option maxRecDepth 100000
set_option maxHeartbeats 1000000
namespace EV
open PySem
theorem v_lc {O : Orc} {fz : Bool} {g : MG} {it e : ME} {ifs : List ME} {σ : En} {h : MH} : (sem O (.lc fz g it ifs e)).v σ h = comp fz g (sem O it) (sems O ifs) (sem O e) σ h := rfl
theorem ni_eq (k : Nat) (x : D) (h : MH) : cl (k + 1) 9 [x] h = (runD (orc SY k) 2 b_names_in [x] h).bind (fin false h.length) := rfl
theorem fi_eq (k : Nat) (x : D) (h : MH) : cl (k + 1) 10 [x] h = (runD (orc SY k) 2 b_fields_in [x] h).bind (fin false h.length) := rfl
theorem lk (w : S) (vs : List D) {x : D} {h : MH} (e : look (.str w) kk vs = some x) : idxD (.kdc kk vs) (.str w) h = some x := e
structure Pw (r : D) : Prop where
  pl : isPl r = true
  p1 : plain 1 r = true
  ok : okR r = true
  w : wt r ≤ 40
theorem nm_okR {s : S} (h : isNS s = true) : okR (.str s) = true ∧ wt (.str s) ≤ 8 := by
  unfold isNS at h
  simp only [Bool.and_eq_true, decide_eq_true_eq] at h
  exact ⟨okS_LS h.2 (by omega), h.1.1.2⟩
theorem pw2 {w a : S} (hw : w = [110, 101, 119] ∨ w = [110, 111, 110, 101]) (ha : isNS a = true) : Pw (.tup [.str w, .str a]) := by
  have e1 : look (.str w) kk vsz = some (.int 2) := by rcases hw with rfl | rfl <;> rfl
  have e2 : okR (.str w) = true ∧ wt (.str w) ≤ 8 := by rcases hw with rfl | rfl <;> decide
  have na := nm_okR ha
  refine ⟨?_, rfl, ?_, ?_⟩
  · simp [isPl, e1, isN, ha]
  · show (okR (.str w) && (okR (.str a) && true)) = true
    rw [e2.1, na.1]; rfl
  · show wt (.str w) + 1 + (wt (.str a) + 1 + 0) ≤ 40
    omega
theorem pw3 {a b : S} (ha : isNS a = true) (hb : isNS b = true) : Pw (.tup [.str [99, 111, 112, 121], .str a, .str b]) := by
  have e1 : look (.str [99, 111, 112, 121]) kk vsz = some (.int 3) := rfl
  have e2 : okR (.str [99, 111, 112, 121]) = true ∧ wt (.str [99, 111, 112, 121]) ≤ 8 := by decide
  have na := nm_okR ha
  have nb := nm_okR hb
  refine ⟨?_, rfl, ?_, ?_⟩
  · simp [isPl, e1, isN, ha, hb]
  · show (okR (.str [99, 111, 112, 121]) && (okR (.str a) && (okR (.str b) && true))) = true
    rw [e2.1, na.1, nb.1]; rfl
  · show wt (.str [99, 111, 112, 121]) + 1 + (wt (.str a) + 1 + (wt (.str b) + 1 + 0)) ≤ 40
    omega
theorem pw4 {w a b c : S} (hw : w = [108, 111, 97, 100] ∨ w = [115, 116, 111, 114, 101]) (ha : isNS a = true) (hb : isNS b = true) (hc : isNS c = true) : Pw (.tup [.str w, .str a, .str b, .str c]) := by
  have e1 : look (.str w) kk vsz = some (.int 4) := by rcases hw with rfl | rfl <;> rfl
  have e2 : okR (.str w) = true ∧ wt (.str w) ≤ 8 := by rcases hw with rfl | rfl <;> decide
  have na := nm_okR ha
  have nb := nm_okR hb
  have nc := nm_okR hc
  refine ⟨?_, rfl, ?_, ?_⟩
  · simp [isPl, e1, isN, ha, hb, hc]
  · show (okR (.str w) && (okR (.str a) && (okR (.str b) && (okR (.str c) && true)))) = true
    rw [e2.1, na.1, nb.1, nc.1]; rfl
  · show wt (.str w) + 1 + (wt (.str a) + 1 + (wt (.str b) + 1 + (wt (.str c) + 1 + 0))) ≤ 40
    omega
theorem gdF (w : S) (h : (gd.any fun z => deq z (.str w)) = false) (hh : MH) : inD (.str w) (.tup gd) hh = some false := by rw [in_gd, h]

theorem names_pr {k : Nat} {d : D} {ss fs : List S} {h : MH} (hp : PR ss fs d) : ∃ ns : List S, cl (k + 1) 9 [d] h = some (.lst (ns.map .str), h) ∧ ∀ s ∈ ns, s ∈ ss := by
  rw [ni_eq]
  cases hp with
  | @cp a b ha hb =>
    refine ⟨[a, b], ?_, fun s hs => by simp only [List.mem_cons, List.not_mem_nil, or_false, or_self] at hs; rcases hs with rfl | rfl <;> assumption⟩
    have i0 : idxD (.tup [.str [99, 111, 112, 121], .str a, .str b]) (.int 0) h = some (.str [99, 111, 112, 121]) := idxN 0 rfl
    have i1 : idxD (.tup [.str [99, 111, 112, 121], .str a, .str b]) (.int 1) h = some (.str a) := idxN 1 rfl
    have i2 : idxD (.tup [.str [99, 111, 112, 121], .str a, .str b]) (.int 2) h = some (.str b) := idxN 2 rfl
    have hin := gdF [99, 111, 112, 121] rfl h
    have l := lk (h := h) [99, 111, 112, 121] v10 rfl
    simp only [runD, b_names_in]
    simp [v_lc, comp, gather, gath, slotsG, wipeE, takeG, tests, itS, itD, okL, newL, two, cmpB, cmpD, truS, truD, i0, i1, i2, hin, l, gl10, gl12, fin]
  | @ld a b c ha hb hc =>
    refine ⟨[a, b], ?_, fun s hs => by simp only [List.mem_cons, List.not_mem_nil, or_false, or_self] at hs; rcases hs with rfl | rfl <;> assumption⟩
    have i0 : idxD (.tup [.str [108, 111, 97, 100], .str a, .str b, .str c]) (.int 0) h = some (.str [108, 111, 97, 100]) := idxN 0 rfl
    have i1 : idxD (.tup [.str [108, 111, 97, 100], .str a, .str b, .str c]) (.int 1) h = some (.str a) := idxN 1 rfl
    have i2 : idxD (.tup [.str [108, 111, 97, 100], .str a, .str b, .str c]) (.int 2) h = some (.str b) := idxN 2 rfl
    have hin := gdF [108, 111, 97, 100] rfl h
    have l := lk (h := h) [108, 111, 97, 100] v10 rfl
    simp only [runD, b_names_in]
    simp [v_lc, comp, gather, gath, slotsG, wipeE, takeG, tests, itS, itD, okL, newL, two, cmpB, cmpD, truS, truD, i0, i1, i2, hin, l, gl10, gl12, fin]
  | @st a c b ha hc hb =>
    refine ⟨[a, c], ?_, fun s hs => by simp only [List.mem_cons, List.not_mem_nil, or_false, or_self] at hs; rcases hs with rfl | rfl <;> assumption⟩
    have i0 : idxD (.tup [.str [115, 116, 111, 114, 101], .str a, .str b, .str c]) (.int 0) h = some (.str [115, 116, 111, 114, 101]) := idxN 0 rfl
    have i1 : idxD (.tup [.str [115, 116, 111, 114, 101], .str a, .str b, .str c]) (.int 1) h = some (.str a) := idxN 1 rfl
    have i3 : idxD (.tup [.str [115, 116, 111, 114, 101], .str a, .str b, .str c]) (.int 3) h = some (.str c) := idxN 3 rfl
    have hin := gdF [115, 116, 111, 114, 101] rfl h
    have l := lk (h := h) [115, 116, 111, 114, 101] v10 rfl
    simp only [runD, b_names_in]
    simp [v_lc, comp, gather, gath, slotsG, wipeE, takeG, tests, itS, itD, okL, newL, two, cmpB, cmpD, truS, truD, i0, i1, i3, hin, l, gl10, gl12, fin]
  | @nw a ha =>
    refine ⟨[a], ?_, fun s hs => by simp only [List.mem_cons, List.not_mem_nil, or_false, or_self] at hs; rw [hs]; exact ha⟩
    have i0 : idxD (.tup [.str [110, 101, 119], .str a]) (.int 0) h = some (.str [110, 101, 119]) := idxN 0 rfl
    have i1 : idxD (.tup [.str [110, 101, 119], .str a]) (.int 1) h = some (.str a) := idxN 1 rfl
    have hin := gdF [110, 101, 119] rfl h
    have l := lk (h := h) [110, 101, 119] v10 rfl
    simp only [runD, b_names_in]
    simp [v_lc, comp, gather, gath, slotsG, wipeE, takeG, tests, itS, itD, okL, newL, two, cmpB, cmpD, truS, truD, i0, i1, hin, l, gl10, gl12, fin]
  | @nn a ha =>
    refine ⟨[a], ?_, fun s hs => by simp only [List.mem_cons, List.not_mem_nil, or_false, or_self] at hs; rw [hs]; exact ha⟩
    have i0 : idxD (.tup [.str [110, 111, 110, 101], .str a]) (.int 0) h = some (.str [110, 111, 110, 101]) := idxN 0 rfl
    have i1 : idxD (.tup [.str [110, 111, 110, 101], .str a]) (.int 1) h = some (.str a) := idxN 1 rfl
    have hin := gdF [110, 111, 110, 101] rfl h
    have l := lk (h := h) [110, 111, 110, 101] v10 rfl
    simp only [runD, b_names_in]
    simp [v_lc, comp, gather, gath, slotsG, wipeE, takeG, tests, itS, itD, okL, newL, two, cmpB, cmpD, truS, truD, i0, i1, hin, l, gl10, gl12, fin]
theorem fields_pr {k : Nat} {d : D} {ss fs : List S} {h : MH} (hp : PR ss fs d) : ∃ ns : List S, cl (k + 1) 10 [d] h = some (.lst (ns.map .str), h) ∧ ∀ s ∈ ns, s ∈ fs := by
  rw [fi_eq]
  cases hp with
  | @cp a b ha hb =>
    refine ⟨[], ?_, fun s hs => by cases hs⟩
    have i0 : idxD (.tup [.str [99, 111, 112, 121], .str a, .str b]) (.int 0) h = some (.str [99, 111, 112, 121]) := idxN 0 rfl
    have hin := gdF [99, 111, 112, 121] rfl h
    have l := lk (h := h) [99, 111, 112, 121] v11 rfl
    simp only [runD, b_fields_in]
    simp [v_lc, comp, gather, gath, slotsG, wipeE, takeG, tests, itS, itD, okL, newL, two, cmpB, cmpD, truS, truD, i0, hin, l, gl11, gl12, fin]
  | @ld a b c ha hb hc =>
    refine ⟨[c], ?_, fun s hs => by simp only [List.mem_cons, List.not_mem_nil, or_false, or_self] at hs; rw [hs]; exact hc⟩
    have i0 : idxD (.tup [.str [108, 111, 97, 100], .str a, .str b, .str c]) (.int 0) h = some (.str [108, 111, 97, 100]) := idxN 0 rfl
    have i3 : idxD (.tup [.str [108, 111, 97, 100], .str a, .str b, .str c]) (.int 3) h = some (.str c) := idxN 3 rfl
    have hin := gdF [108, 111, 97, 100] rfl h
    have l := lk (h := h) [108, 111, 97, 100] v11 rfl
    simp only [runD, b_fields_in]
    simp [v_lc, comp, gather, gath, slotsG, wipeE, takeG, tests, itS, itD, okL, newL, two, cmpB, cmpD, truS, truD, i0, i3, hin, l, gl11, gl12, fin]
  | @st a c b ha hc hb =>
    refine ⟨[b], ?_, fun s hs => by simp only [List.mem_cons, List.not_mem_nil, or_false, or_self] at hs; rw [hs]; exact hb⟩
    have i0 : idxD (.tup [.str [115, 116, 111, 114, 101], .str a, .str b, .str c]) (.int 0) h = some (.str [115, 116, 111, 114, 101]) := idxN 0 rfl
    have i2 : idxD (.tup [.str [115, 116, 111, 114, 101], .str a, .str b, .str c]) (.int 2) h = some (.str b) := idxN 2 rfl
    have hin := gdF [115, 116, 111, 114, 101] rfl h
    have l := lk (h := h) [115, 116, 111, 114, 101] v11 rfl
    simp only [runD, b_fields_in]
    simp [v_lc, comp, gather, gath, slotsG, wipeE, takeG, tests, itS, itD, okL, newL, two, cmpB, cmpD, truS, truD, i0, i2, hin, l, gl11, gl12, fin]
  | @nw a ha =>
    refine ⟨[], ?_, fun s hs => by cases hs⟩
    have i0 : idxD (.tup [.str [110, 101, 119], .str a]) (.int 0) h = some (.str [110, 101, 119]) := idxN 0 rfl
    have hin := gdF [110, 101, 119] rfl h
    have l := lk (h := h) [110, 101, 119] v11 rfl
    simp only [runD, b_fields_in]
    simp [v_lc, comp, gather, gath, slotsG, wipeE, takeG, tests, itS, itD, okL, newL, two, cmpB, cmpD, truS, truD, i0, hin, l, gl11, gl12, fin]
  | @nn a ha =>
    refine ⟨[], ?_, fun s hs => by cases hs⟩
    have i0 : idxD (.tup [.str [110, 111, 110, 101], .str a]) (.int 0) h = some (.str [110, 111, 110, 101]) := idxN 0 rfl
    have hin := gdF [110, 111, 110, 101] rfl h
    have l := lk (h := h) [110, 111, 110, 101] v11 rfl
    simp only [runD, b_fields_in]
    simp [v_lc, comp, gather, gath, slotsG, wipeE, takeG, tests, itS, itD, okL, newL, two, cmpB, cmpD, truS, truD, i0, hin, l, gl11, gl12, fin]
theorem PR.pw {ss fs : List S} {d : D} (hp : PR ss fs d) (hs : ∀ s ∈ ss, isNS s = true) (hf : ∀ s ∈ fs, isNS s = true) : Pw d := by
  cases hp with
  | ld ha hb hc => exact pw4 (.inl rfl) (hs _ ha) (hs _ hb) (hf _ hc)
  | st ha hb hc => exact pw4 (.inr rfl) (hs _ ha) (hf _ hc) (hs _ hb)
  | cp ha hb => exact pw3 (hs _ ha) (hs _ hb)
  | nw ha => exact pw2 (.inl rfl) (hs _ ha)
  | nn ha => exact pw2 (.inr rfl) (hs _ ha)
theorem PR.hd {ss fs : List S} {d : D} (hp : PR ss fs d) (h : MH) : ∃ w, idxD d (.int 0) h = some (.str w) ∧ inD (.str w) (.tup gd) h = some false := by
  cases hp with
  | ld ha hb hc => exact ⟨_, idxN 0 rfl, gdF _ rfl h⟩
  | st ha hb hc => exact ⟨_, idxN 0 rfl, gdF _ rfl h⟩
  | cp ha hb => exact ⟨_, idxN 0 rfl, gdF _ rfl h⟩
  | nw ha => exact ⟨_, idxN 0 rfl, gdF _ rfl h⟩
  | nn ha => exact ⟨_, idxN 0 rfl, gdF _ rfl h⟩
/-- different ones of a list are no more than it has -/
theorem nd_le : ∀ {a b : List S}, a.Nodup → (∀ s ∈ a, s ∈ b) → a.length ≤ b.length
  | [], _, _, _ => Nat.zero_le _
  | x :: a, b, n, h => by
    obtain ⟨n1, n2⟩ := List.nodup_cons.mp n
    have hx := h x List.mem_cons_self
    have h2 := nd_le (b := b.erase x) n2 fun s hs => (List.mem_erase_of_ne fun z => n1 (by rw [← z]; exact hs)).mpr (h s (List.mem_cons_of_mem _ hs))
    rw [List.length_erase_of_mem hx] at h2
    have := List.length_pos_of_mem hx
    simp only [List.length_cons]
    omega
theorem gath1_in {O : Orc} {j : Nat} {σ : En} {h : MH} {ss : List S} (hj : j < σ.length) (hl : ss.length ≤ 100) : ∀ (ys acc : List S), acc.Nodup → (∀ s ∈ acc, s ∈ ss) → (∀ s ∈ ys, s ∈ ss) → ∃ acc', gath1 (.nm j) (sem O (.var j)) σ (ys.map .str) h acc = some (acc', h) ∧ acc'.Nodup ∧ ∀ s ∈ acc', s ∈ ss
  | [], acc, n, m, _ => ⟨acc, rfl, n, m⟩
  | y :: ys, acc, n, m, my => by
    have hy := my y List.mem_cons_self
    have n2 : (if acc.contains y then acc else acc ++ [y]).Nodup := by
      split
      · exact n
      · rename_i hc
        rw [List.nodup_append]
        refine ⟨n, by simp, fun a ha b hb e => ?_⟩
        have : b = y := by simpa using hb
        subst this
        subst e
        exact hc (by simpa using ha)
    have m2 : ∀ s ∈ (if acc.contains y then acc else acc ++ [y]), s ∈ ss := by
      intro s hs
      split at hs
      · exact m s hs
      · rcases List.mem_append.mp hs with hs | hs
        · exact m s hs
        · have : s = y := by simpa using hs
          rw [this]; exact hy
    obtain ⟨acc', e, h2⟩ := gath1_in (O := O) (h := h) hj hl ys _ n2 m2 fun s hs => my s (List.mem_cons_of_mem _ hs)
    refine ⟨acc', ?_, h2⟩
    have hla := nd_le n m
    show (match takeG (.nm j) (.str y) h σ with
      | some σ1 => match (sem O (.var j)).v σ1 h with
        | some (.str s, h1) => if decide (acc.length ≤ 1000) then gath1 (.nm j) (sem O (.var j)) σ (ys.map .str) h1 (if acc.contains s then acc else acc ++ [s]) else none
        | _ => none
      | none => none) = _
    rw [takeG_nm]
    dsimp only
    rw [v_var, List.getElem?_set_self hj]
    dsimp only
    rw [if_pos (decide_eq_true (by omega))]
    exact e
theorem gath2_in {O : Orc} {j q : Nat} {it2 : ME} {σ : En} {h : MH} {ss : List S} (hj : j < σ.length) (hl : ss.length ≤ 100) : ∀ (xs : List D) (acc : List S), acc.Nodup → (∀ s ∈ acc, s ∈ ss) → (∀ x ∈ xs, ∃ ys : List S, (sem O it2).w (σ.set q (some x)) h = some (ys.map .str, h) ∧ ∀ s ∈ ys, s ∈ ss) →
    ∃ acc', gath2 (.nm q) (.nm j) (sem O it2) (sem O (.var j)) σ xs h acc = some (acc', h) ∧ acc'.Nodup ∧ ∀ s ∈ acc', s ∈ ss
  | [], acc, n, m, _ => ⟨acc, rfl, n, m⟩
  | x :: xs, acc, n, m, hx => by
    obtain ⟨ys, e1, m1⟩ := hx x List.mem_cons_self
    obtain ⟨a1, e2, n2, m2⟩ := gath1_in (O := O) (h := h) (σ := wipeE (σ.set q (some x)) (slotsG (.nm j))) (j := j) (by simpa [slotsG, wipeE] using hj) hl ys acc n m m1
    obtain ⟨a2, e3, n3, m3⟩ := gath2_in (O := O) (q := q) (it2 := it2) (h := h) hj hl xs a1 n2 m2 fun y hy => hx y (List.mem_cons_of_mem _ hy)
    refine ⟨a2, ?_, n3, m3⟩
    show (match takeG (.nm q) x h σ with
      | some σ1 => match (sem O it2).w σ1 h with
        | some (ys, h1) => match gath1 (.nm j) (sem O (.var j)) (wipeE σ1 (slotsG (.nm j))) ys h1 acc with
          | some (acc1, h2) => gath2 (.nm q) (.nm j) (sem O it2) (sem O (.var j)) σ xs h2 acc1
          | none => none
        | none => none
      | none => none) = _
    rw [takeG_nm]
    dsimp only
    rw [e1]
    dsimp only
    rw [e2]
    exact e3
/-- how many different texts -/
theorem W2.lsc {O : Orc} {i j q : Nat} {it2 : ME} {σ : En} {h : MH} {ss : List S} {xs : List D} {Q : D → MH → Prop} (hi : (sem O (.var i)).w σ h = some (xs, h)) (hj : j < σ.length) (hl : ss.length ≤ 100)
    (hx : ∀ x ∈ xs, ∃ ys : List S, (sem O it2).w ((wipeE σ (slotsG (.nm q) ++ slotsG (.nm j))).set q (some x)) h = some (ys.map .str, h) ∧ ∀ s ∈ ys, s ∈ ss) (w : ∀ n : Nat, n ≤ ss.length → Q (.int n) h) : W2 ((sem O (.lsc (.nm q) (.var i) (.nm j) it2 (.var j))).v σ h) Q := by
  obtain ⟨acc, e, n, m⟩ := gath2_in (O := O) (h := h) (σ := wipeE σ (slotsG (.nm q) ++ slotsG (.nm j))) (j := j) (q := q) (it2 := it2) (by simpa [slotsG, wipeE] using hj) hl xs [] List.nodup_nil (fun s hs => by cases hs) hx
  have hn := nd_le n m
  refine .eq ?_ (w acc.length hn)
  show lscS (.nm q) (sem O (.var i)) (.nm j) (sem O it2) (sem O (.var j)) σ h = _
  unfold lscS
  rw [hi]
  dsimp only
  rw [e]
  dsimp only
  rw [if_pos (decide_eq_true (by omega))]
end EV

set_option Elab.async false
set_option linter.all false
set_option maxRecDepth 100000
set_option maxHeartbeats 1000000
namespace EV
open PySem
local macro_rules | `(tactic| walk_at "w") => `(tactic| first | ((with_reducible apply W2.var); exact rfl) | with_reducible apply W2.cst | with_reducible apply W2.evnil | with_reducible apply W2.evcons | with_reducible apply W2.tup | with_reducible apply W2.lstT | with_reducible apply W2.lstF | with_reducible apply W2.bin | with_reducible apply W2.idx | with_reducible apply W2.cmpT | with_reducible apply W2.cmp | with_reducible apply W2.neg | with_reducible apply W2.ntT | with_reducible apply W2.nt | with_reducible apply W2.and1T | with_reducible apply W2.andT | with_reducible apply W2.or1T | with_reducible apply W2.orT | with_reducible apply W2.and1 | with_reducible apply W2.and | with_reducible apply W2.ife | with_reducible apply W2.pNone | with_reducible apply W2.pSome | with_reducible apply W2.slc | with_reducible apply W2.isi | ((with_reducible apply W2.callS); exact rfl) | ((with_reducible apply W2.cmtS); exact rfl) | ((with_reducible apply W2.mkC); exact rfl) | ((with_reducible apply W2.mk0C); exact rfl) | ((with_reducible apply W2.mkSC); exact rfl) | with_reducible apply W2.bif | with_reducible apply W2.bim | with_reducible apply W2.att | with_reducible apply W2.meth | with_reducible apply W2.kmt | with_reducible apply W2.prp | with_reducible apply W2.sob | with_reducible apply W2.lno | with_reducible apply W2.eqo | with_reducible apply W2.isc | with_reducible apply W2.frz | with_reducible apply W2.gcl | with_reducible apply W2.rng1 | with_reducible apply W2.enm | ((with_reducible apply okL_and); exact rfl) | ((with_reducible apply W2.tV); exact rfl) | ((with_reducible apply W2.wV); exact rfl) | with_reducible apply W1.truB | with_reducible apply W1.itL | with_reducible apply W1.itT | with_reducible apply W1.add | with_reducible apply W1.sub | with_reducible apply W1.lt | with_reducible apply W1.le | with_reducible apply W1.gt | with_reducible apply W1.ge | with_reducible apply W1.eqI | with_reducible apply W1.neI | with_reducible apply W1.eqS | with_reducible apply W1.neS | with_reducible apply W1.isN | with_reducible apply W1.notN | with_reducible apply W1.isB | with_reducible apply W2.finF | with_reducible apply W2.lenT | with_reducible apply W2.lenL | with_reducible apply W3.cons | with_reducible apply W3.nil | with_reducible apply W3.asg | with_reducible apply W3.asgT | with_reducible apply W3.par | with_reducible apply W3.ex | with_reducible apply W3.ret | with_reducible apply W3.pas | with_reducible apply W3.ite | with_reducible apply W3.fset | with_reducible apply W3.for | with_reducible apply W3.forE | with_reducible apply Kn.nx | with_reducible apply Kn.rt | with_reducible apply W3.turnN)
local macro_rules | `(tactic| walk_at "env") => `(tactic| simp only [List.map_cons, List.map_nil, List.length_cons, List.length_nil, Nat.zero_add, Nat.reduceAdd, Nat.reduceSub, List.reduceReplicate, List.cons_append, List.nil_append, List.set_cons_zero, List.set_cons_succ])
theorem W2.glbS {O : Orc} [Sy O] {g : Nat} {d : D} {σ : En} {h : MH} {Q : D → MH → Prop} (hg : SY.glb g = d) (q : Q d h) : W2 ((sem O (.glb g)).v σ h) Q := W2.glb (by rw [Sy.glb]; exact hg) q
theorem W3.turnT {O : Orc} {js : List Nat} {body : List MS} {x : D} {xs : List D} {σ σ1 : En} {h : MH} {R : Fl → En → MH → Prop} (e1 : seqD h x = some xs) (hl : xs.length = js.length) (e2 : setAll js xs σ = some σ1) (w : W3 (execs O body σ1 h) R) : W3 (turn O (.tp js) body x σ h) R := by
  obtain ⟨f, σ2, h2, e, q⟩ := w
  refine .eq ?_ q
  unfold turn takeG
  dsimp only
  rw [e1]
  dsimp only
  rw [if_pos hl, e2]
  exact e
theorem gather_none {f : D → MH → Option (Option D × MH)} {h : MH} {acc : List D} : ∀ {xs : List D}, (∀ x ∈ xs, f x h = some (none, h)) → gather f xs h acc = some (acc, h)
  | [], _ => rfl
  | x :: xs, hx => by
    unfold gather
    rw [hx x List.mem_cons_self]
    exact gather_none fun y hy => hx y (List.mem_cons_of_mem _ hy)
class Bs (O : Orc) : Prop where
  row : ∀ (d : D) (h : MH), Pw d → O.call 3 [d] h = some (.bl true, h)
  nm : ∀ (d : D) (ss fs : List S) (h : MH), PR ss fs d → ∃ ns : List S, O.call 9 [d] h = some (.lst (ns.map .str), h) ∧ ∀ s ∈ ns, s ∈ ss
  fd : ∀ (d : D) (ss fs : List S) (h : MH), PR ss fs d → ∃ ns : List S, O.call 10 [d] h = some (.lst (ns.map .str), h) ∧ ∀ s ∈ ns, s ∈ fs
theorem Pw.isR {d : D} (h : Pw d) : isR d = true := by unfold EV.isR; rw [h.pl]; rfl
instance (k : Nat) : Bs (orc SY (k + 4)) := ⟨fun d h p => by
    have := row_ok (k := k) (h := h) (n := 1) (d := d) ⟨p.p1, by have := p.w; omega⟩
    rw [p.isR] at this
    exact this, fun d ss fs h p => names_pr (k := k + 3) p, fun d ss fs h p => fields_pr (k := k + 3) p⟩
/-- names and fields of a program, its rows -/
structure NF (ss fs : List S) : Prop where
  s : NS ss
  f : NS fs
  f2 : fs.length ≤ 2
structure RL (ss fs : List S) (R : List D) : Prop where
  pr : ∀ r ∈ R, PR ss fs r
  l : R.length ≤ 6
theorem w_call1 {O : Orc} [Sy O] {f j : Nat} {x y : D} {ys : List D} {σ : En} {h : MH} (hf : SY.isF f = true) (hj : σ[j]? = some (some x)) (e : O.call f [x] h = some (.lst ys, h)) : (sem O (.call f [.var j])).w σ h = some (ys, h) := by
  rw [w_call]
  unfold itS
  rw [v_call, if_pos (by rw [Sy.isF]; exact hf), sems_cons, sems_nil, evs_cons, v_var, hj]
  dsimp only
  rw [evs_nil]
  dsimp only
  rw [e]
  rfl
theorem look_run {O : Orc} [Sy O] [Bs O] {N0 : Nat} {h : MH} {ss fs : List S} {R : List D} (nf : NF ss fs) (rl : RL ss fs R) : W2 ((runD O 5 b_look_rows [.tup R] h).bind (fin false N0)) fun d h' => d = .non ∧ h' = h := by
  have hs := nf.s.l
  have hf2 := nf.f2
  have hl := rl.l
  apply W2.run
  walk_at "env"
  unfold b_look_rows
  apply W3.cons
  apply W3.forE
  apply W2.enm
  apply W2.var rfl
  refine ⟨R, rfl, ?_⟩
  refine W3.loop (fun _ σ h1 => h1 = h ∧ ∃ a b, σ = [some (.tup R), a, b, none, none]) ⟨rfl, _, _, rfl⟩ (fun j x σ h1 hx ⟨eh, a, b, es⟩ => ?_) (fun σ1 h1 ⟨eh, a, b, es⟩ => ?_)
  · subst eh es
    rw [List.getElem?_map] at hx
    obtain ⟨⟨r, q⟩, hq, rfl⟩ := Option.map_eq_some_iff.mp hx
    have hr : r ∈ R := by
      rw [List.getElem?_zipIdx] at hq
      obtain ⟨r2, h2, e2⟩ := Option.map_eq_some_iff.mp hq
      cases e2
      exact List.mem_of_getElem? h2
    refine W3.turnT (xs := [.int q, r]) rfl rfl rfl ?_
    apply W3.cons
    apply W3.ite
    repeat walk_at "w"
    refine W2.eq (Bs.row r h1 ((rl.pr r hr).pw nf.s.n nf.f.n)) ?_
    repeat walk_at "w"
    exact ⟨fun c => absurd c (by decide), fun _ => W3.nil (Kn.nx (W3.nil ⟨rfl, _, _, rfl⟩))⟩
  subst eh es
  apply Kn.nx
  apply W3.cons
  apply W3.ite
  repeat walk_at "w"
  refine W2.glbS (d := .int 6) rfl ?_
  repeat walk_at "w"
  refine ⟨fun c => absurd (of_decide_eq_true c) (by omega), fun _ => W3.nil (Kn.nx ?_)⟩
  apply W3.cons
  apply W3.ite
  walk_at "w"
  walk_at "w"
  walk_at "w"
  refine W2.eq (x := .lst []) (h := h1) ?_ ?_
  · rw [v_lc]
    unfold comp
    rw [show (sem O (.var 0)).w [some (.tup R), a, b, none, none] h1 = some (R, h1) from rfl]
    dsimp only
    rw [gather_none fun x hx => ?_]
    · rfl
    · obtain ⟨w, e1, e2⟩ := (rl.pr x hx).hd h1
      have g12 : O.glb 12 = .tup gd := by rw [Sy.glb]; rfl
      simp [gath, slotsG, wipeE, takeG, tests, two, cmpB, cmpD, truS, truD, e1, e2, g12]
  repeat walk_at "w"
  refine W2.glbS (d := .int 2) rfl ?_
  repeat walk_at "w"
  refine ⟨fun c => absurd (of_decide_eq_true c) (by simp), fun _ => W3.nil (Kn.nx ?_)⟩
  apply W3.cons
  apply W3.ite
  walk_at "w"
  refine W2.lsc (ss := ss) (xs := R) rfl (by simp) (by omega) (fun x hx => ?_) fun n hn => ?_
  · obtain ⟨ns, e, m⟩ := Bs.nm (O := O) x ss fs h1 (rl.pr x hx)
    exact ⟨ns, w_call1 (y := .non) rfl rfl e, m⟩
  refine W2.glbS (d := .int 4) rfl ?_
  repeat walk_at "w"
  refine ⟨fun c => absurd (of_decide_eq_true c) (by omega), fun _ => W3.nil (Kn.nx ?_)⟩
  apply W3.cons
  apply W3.ite
  walk_at "w"
  refine W2.lsc (ss := fs) (xs := R) rfl (by simp) (by omega) (fun x hx => ?_) fun n hn => ?_
  · obtain ⟨ns, e, m⟩ := Bs.fd (O := O) x ss fs h1 (rl.pr x hx)
    exact ⟨ns, w_call1 (y := .non) rfl rfl e, m⟩
  refine W2.glbS (d := .int 2) rfl ?_
  repeat walk_at "w"
  refine ⟨fun c => absurd (of_decide_eq_true c) (by omega), fun _ => W3.nil (Kn.nx ?_)⟩
  repeat walk_at "w"
  exact ⟨rfl, rfl⟩
theorem lr_eq (k : Nat) (x : D) (h : MH) : cl (k + 1) 12 [x] h = (runD (orc SY k) 5 b_look_rows [x] h).bind (fin false h.length) := rfl
class Lk (O : Orc) : Prop where
  look : ∀ (h : MH) (ss fs : List S) (R : List D), NF ss fs → RL ss fs R → W2 (O.call 12 [.tup R] h) fun d h' => d = .non ∧ h' = h
instance (k : Nat) : Lk (orc SY (k + 5)) := ⟨fun h ss fs R nf rl => look_run (O := orc SY (k + 4)) (N0 := h.length) nf rl⟩
/-! ### what freezing leaves alone -/
def HG (h : MH) : Prop := ∀ o ∈ h, ∀ (N : Nat) (H : MH), h.length ≤ N → fzO N H 12 o = some o
theorem eachO_same {f : MO → Option MO} : ∀ {h : MH}, (∀ o ∈ h, f o = some o) → eachO f h = some h
  | [], _ => rfl
  | o :: h, hg => by
    unfold eachO
    rw [hg o List.mem_cons_self, eachO_same fun x hx => hg x (List.mem_cons_of_mem _ hx)]
theorem HG.each {h : MH} (g : HG h) {N : Nat} {H : MH} (hN : h.length ≤ N) : eachO (fzO N H 12) h = some h := eachO_same fun o ho => g o ho N H hN
theorem HG.push {h : MH} {o : MO} (g : HG h) (ho : ∀ (N : Nat) (H : MH), h.length < N → fzO N H 12 o = some o) : HG (h ++ [o]) := by
  intro x hx N H hN
  rw [List.length_append, List.length_singleton] at hN
  rcases List.mem_append.mp hx with hx | hx
  · exact g x hx N H (by omega)
  · have : x = o := by simpa using hx
    rw [this]
    exact ho N H (by omega)
theorem HG.put {h : MH} {o : MO} {i : Nat} (g : HG h) (ho : ∀ (N : Nat) (H : MH), h.length ≤ N → fzO N H 12 o = some o) : HG (h.set i o) := by
  intro x hx N H hN
  rw [List.length_set] at hN
  rcases List.mem_or_eq_of_mem_set hx with hx | rfl
  · exact g x hx N H hN
  · exact ho N H hN
end EV

set_option Elab.async false
set_option linter.all false
set_option maxRecDepth 100000
set_option maxHeartbeats 1000000
namespace EV
open PySem
local macro_rules | `(tactic| walk_at "w") => `(tactic| first | ((with_reducible apply W2.var); exact rfl) | with_reducible apply W2.cst | with_reducible apply W2.evnil | with_reducible apply W2.evcons | with_reducible apply W2.tup | with_reducible apply W2.lstT | with_reducible apply W2.lstF | with_reducible apply W2.bin | with_reducible apply W2.idx | with_reducible apply W2.cmpT | with_reducible apply W2.cmp | with_reducible apply W2.neg | with_reducible apply W2.ntT | with_reducible apply W2.nt | with_reducible apply W2.and1T | with_reducible apply W2.andT | with_reducible apply W2.or1T | with_reducible apply W2.orT | with_reducible apply W2.and1 | with_reducible apply W2.and | with_reducible apply W2.ife | with_reducible apply W2.pNone | with_reducible apply W2.pSome | with_reducible apply W2.slc | with_reducible apply W2.isi | ((with_reducible apply W2.callS); exact rfl) | ((with_reducible apply W2.cmtS); exact rfl) | ((with_reducible apply W2.mkC); exact rfl) | ((with_reducible apply W2.mk0C); exact rfl) | ((with_reducible apply W2.mkSC); exact rfl) | with_reducible apply W2.bif | with_reducible apply W2.bim | with_reducible apply W2.att | with_reducible apply W2.meth | with_reducible apply W2.kmt | with_reducible apply W2.prp | with_reducible apply W2.sob | with_reducible apply W2.lno | with_reducible apply W2.eqo | with_reducible apply W2.isc | with_reducible apply W2.frz | with_reducible apply W2.gcl | with_reducible apply W2.rng1 | with_reducible apply W2.enm | ((with_reducible apply okL_and); exact rfl) | ((with_reducible apply W2.tV); exact rfl) | ((with_reducible apply W2.wV); exact rfl) | with_reducible apply W1.truB | with_reducible apply W1.itL | with_reducible apply W1.itT | with_reducible apply W1.add | with_reducible apply W1.sub | with_reducible apply W1.lt | with_reducible apply W1.le | with_reducible apply W1.gt | with_reducible apply W1.ge | with_reducible apply W1.eqI | with_reducible apply W1.neI | with_reducible apply W1.eqS | with_reducible apply W1.neS | with_reducible apply W1.isN | with_reducible apply W1.notN | with_reducible apply W1.isB | with_reducible apply W2.finF | with_reducible apply W2.lenT | with_reducible apply W2.lenL | with_reducible apply W3.cons | with_reducible apply W3.nil | with_reducible apply W3.asg | with_reducible apply W3.asgT | with_reducible apply W3.par | with_reducible apply W3.ex | with_reducible apply W3.ret | with_reducible apply W3.pas | with_reducible apply W3.ite | with_reducible apply W3.fset | with_reducible apply W3.for | with_reducible apply W3.forE | with_reducible apply Kn.nx | with_reducible apply Kn.rt | with_reducible apply W3.turnN)
local macro_rules | `(tactic| walk_at "env") => `(tactic| simp only [List.map_cons, List.map_nil, List.length_cons, List.length_nil, Nat.zero_add, Nat.reduceAdd, Nat.reduceSub, List.reduceReplicate, List.cons_append, List.nil_append, List.set_cons_zero, List.set_cons_succ])
/-! ### programs -/
def pgm (R : List D) : D := .obj 0 [(0, .tup R)]
theorem in_args (x : D) (R : List D) (hl : R.length ≤ 1000) : argsD d_Program___init__ (x :: R) = some [x, .tup R] := by
  unfold argsD
  rw [show d_Program___init__.va = true from rfl, if_pos rfl, show d_Program___init__.np = 2 from rfl, if_pos]
  · rfl
  · rw [Bool.and_eq_true]
    exact ⟨decide_eq_true (by simp only [List.length_cons]; omega), decide_eq_true (by simp only [List.length_cons]; omega)⟩
theorem in_eq (k : Nat) (x : D) (R : List D) (h : MH) (hl : R.length ≤ 1000) : cl (k + 1) 17 (x :: R) h = (runD (orc SY k) 2 b_Program___init__ [x, .tup R] h).bind (fin false h.length) := by
  show (match argsD d_Program___init__ (x :: R) with
    | some xs => (runD (orc SY k) d_Program___init__.N.length d_Program___init__.body xs h).bind (fin d_Program___init__.sh h.length)
    | none => none) = _
  rw [in_args x R hl]
  rfl
theorem get_last {h : MH} {o : MO} {j : Nat} (hj : j = h.length) : (h ++ [o])[j]? = some o := by subst hj; simp
theorem set_last {h : MH} {o u : MO} {j : Nat} (hj : j = h.length) : (h ++ [o]).set j u = h ++ [u] := by subst hj; simp
theorem pinit_run {O : Orc} [Sy O] [Lk O] {N0 : Nat} {h : MH} {ss fs : List S} {R : List D} (nf : NF ss fs) (rl : RL ss fs R) : W2 ((runD O 2 b_Program___init__ [.adr h.length, .tup R] (h ++ [.ins 0 []])).bind (fin false N0)) fun d h' => d = .non ∧ h' = h ++ [.ins 0 [(0, .tup R)]] := by
  apply W2.run
  walk_at "env"
  unfold b_Program___init__
  repeat walk_at "w"
  refine (Lk.look (O := O) _ ss fs R nf rl).mono fun d h1 ⟨e1, e2⟩ => ?_
  subst e1 e2
  repeat walk_at "w"
  refine W2.eq (x := .tup R) (h := h ++ [.ins 0 []]) rfl ?_
  apply W2.var rfl
  refine ⟨h.length, 0, [], rfl, get_last rfl, by decide, by rw [Sy.okF]; rfl, ?_⟩
  rw [set_last rfl]
  exact Kn.nx (W3.nil (W2.finF ⟨rfl, rfl⟩))
class Pm (O : Orc) : Prop where
  mkp : ∀ (h : MH) (ss fs : List S) (R : List D), NF ss fs → RL ss fs R → W2 (mkR 0 (O.call 17) R h) fun d h' => d = .adr h.length ∧ h' = h ++ [.ins 0 [(0, .tup R)]]
instance (k : Nat) : Pm (orc SY (k + 6)) := ⟨fun h ss fs R nf rl => by
  apply W2.mkR
  have e := in_eq (k + 5) (.adr h.length) R (h ++ [.ins 0 []]) (Nat.le_trans rl.l (by decide))
  rw [show (orc SY (k + 6)).call 17 = cl (k + 5 + 1) 17 from rfl, e]
  exact (pinit_run (O := orc SY (k + 5)) nf rl).mono fun d h1 ⟨e1, e2⟩ => ⟨e1, rfl, e2⟩⟩
theorem PR.p1 {ss fs : List S} {d : D} (hp : PR ss fs d) : plain 1 d = true := by cases hp <;> rfl
mutual
theorem fz_plain {N : Nat} {h : MH} : ∀ {n m : Nat} {d : D}, plain n d = true → n < m → fz N h m d = some d
  | _, 0, _, _, hm => absurd hm (by omega)
  | _, m + 1, .non, _, _ => rfl
  | _, m + 1, .bl _, _, _ => rfl
  | _, m + 1, .int _, _, _ => rfl
  | _, m + 1, .str _, _, _ => rfl
  | n + 1, m + 1, .tup xs, hp, hm => by
    have e := fzs_plain (N := N) (h := h) (n := n) (m := m) (ds := xs) hp (by omega)
    show (eachM (fz N h m) xs).map D.tup = _
    rw [e]
    rfl
  | n + 1, m + 1, .lst xs, hp, hm => by
    have e := fzs_plain (N := N) (h := h) (n := n) (m := m) (ds := xs) hp (by omega)
    show (eachM (fz N h m) xs).map D.lst = _
    rw [e]
    rfl
  | 0, _, .tup xs, hp, _ => by cases hp
  | 0, _, .lst xs, hp, _ => by cases hp
  | n, _, .dct _ _, hp, _ => by cases n <;> cases hp
  | n, _, .kdc _ _, hp, _ => by cases n <;> cases hp
  | n, _, .scr _, hp, _ => by cases n <;> cases hp
  | n, _, .adr _, hp, _ => by cases n <;> cases hp
  | n, _, .obj _ _, hp, _ => by cases n <;> cases hp
  | n, _, .rep _, hp, _ => by cases n <;> cases hp
theorem fzs_plain {N : Nat} {h : MH} : ∀ {n m : Nat} {ds : List D}, plains n ds = true → n < m → eachM (fz N h m) ds = some ds
  | _, _, [], _, _ => rfl
  | n, m, x :: xs, hp, hm => by
    have h2 := Bool.and_eq_true_iff.mp hp
    unfold eachM
    rw [fz_plain h2.1 hm, fzs_plain h2.2 hm]
end
theorem plains_pr {ss fs : List S} : ∀ {R : List D}, (∀ r ∈ R, PR ss fs r) → plains 1 R = true
  | [], _ => rfl
  | r :: R, h => by
    show (plain 1 r && plains 1 R) = true
    rw [(h r List.mem_cons_self).p1, plains_pr fun x hx => h x (List.mem_cons_of_mem _ hx)]
    rfl
theorem eachM_one {f : D → Option D} {x y : D} (e : f x = some y) : eachM f [x] = some [y] := by
  show (match f x, eachM f [] with
    | some y, some ys => some (y :: ys)
    | _, _ => none) = _
  rw [e]
  rfl
theorem fz_pgm {N : Nat} {h : MH} {R : List D} {m : Nat} (hp : plains 1 R = true) (hm : 4 ≤ m) : fz N h m (pgm R) = some (pgm R) := by
  obtain ⟨m, rfl⟩ : ∃ q, m = q + 1 := ⟨m - 1, by omega⟩
  have e : fz N h m (.tup R) = some (.tup R) := fz_plain (n := 2) (show plains 1 R = true from hp) (by omega)
  show (eachM (fz N h m) ([((0 : Nat), D.tup R)].map (·.2))).map (fun vs => D.obj 0 (([((0 : Nat), D.tup R)].map (·.1)).zip vs)) = _
  rw [show [((0 : Nat), D.tup R)].map (·.2) = [D.tup R] from rfl, eachM_one e]
  rfl
theorem prog_frz {h : MH} {R : List D} (hG : HG h) (hp : plains 1 R = true) : fin true h.length (.adr h.length, h ++ [.ins 0 [(0, .tup R)]]) = some (pgm R, h) := by
  unfold fin
  rw [if_pos rfl]
  dsimp only
  have e1 : fz h.length (h ++ [.ins 0 [(0, .tup R)]]) 12 (.adr h.length) = some (pgm R) := by
    have e : fz h.length (h ++ [.ins 0 [(0, .tup R)]]) 11 (.tup R) = some (.tup R) := fz_plain (n := 2) (show plains 1 R = true from hp) (by decide)
    unfold fz
    rw [if_neg (Nat.lt_irrefl _), get_last rfl]
    dsimp only
    rw [show [((0 : Nat), D.tup R)].map (·.2) = [D.tup R] from rfl, eachM_one e]
    rfl
  have e2 : (h ++ [MO.ins 0 [(0, .tup R)]]).take h.length = h := by simp
  rw [e1, e2, hG.each (Nat.le_refl _)]
/-- Program(*rows) -/
theorem W2.prog {O : Orc} [Sy O] [Pm O] {o e : ME} {σ : En} {h : MH} {ss fs : List S} {R : List D} {d : D} {Q : D → MH → Prop} (nf : NF ss fs) (rl : RL ss fs R) (hG : HG h) (ho : (sem O o).v σ h = some (.cls 0, h)) (he : (sem O e).v σ h = some (d, h)) (hd : seqD h d = some R) (q : Q (pgm R) h) : W2 ((sem O (.frz (.mkS 0 17 o e))).v σ h) Q := by
  apply W2.frz
  apply W2.mkSC rfl
  refine W2.eq ho ⟨rfl, W2.eq he ⟨R, hd, ?_⟩⟩
  refine (Pm.mkp (O := O) h ss fs R nf rl).mono fun d h1 ⟨e1, e2⟩ => ?_
  subst e1 e2
  exact .eq (prog_frz hG (plains_pr rl.pr)) q
theorem of_eq (k : Nat) (x y : D) (h : MH) : cl (k + 1) 18 [x, y] h = (runD (orc SY k) 2 b_Program_of [x, y] h).bind (fin false h.length) := rfl
theorem pr_eq (k : Nat) (x : D) (h : MH) : cl (k + 1) 19 [x] h = (runD (orc SY k) 1 b_Program_rows [x] h).bind (fin false h.length) := rfl
theorem pe_eq (k : Nat) (x y : D) (h : MH) : cl (k + 1) 20 [x, y] h = (runD (orc SY k) 2 b_Program___eq__ [x, y] h).bind (fin false h.length) := rfl
theorem pl_eq (k : Nat) (x : D) (h : MH) : cl (k + 1) 21 [x] h = (runD (orc SY k) 1 b_Program___len__ [x] h).bind (fin false h.length) := rfl
class Po (O : Orc) : Prop where
  of_ : ∀ (h : MH) (ss fs : List S) (R : List D) (d : D), NF ss fs → RL ss fs R → HG h → seqD h d = some R → W2 (O.call 18 [.cls 0, d] h) fun z h' => z = pgm R ∧ h' = h
  rows : ∀ (h : MH) (R : List D), W2 (O.call 19 [pgm R] h) fun z h' => z = .tup R ∧ h' = h
  eq_ : ∀ (h : MH) (R : List D), plains 50 R = true → W2 (O.call 20 [pgm R, pgm R] h) fun z h' => z = .bl true ∧ h' = h
  len : ∀ (h : MH) (R : List D), W2 (O.call 21 [pgm R] h) fun z h' => z = .int R.length ∧ h' = h
theorem of_run {O : Orc} [Sy O] [Pm O] {N0 : Nat} {h : MH} {ss fs : List S} {R : List D} {d : D} (nf : NF ss fs) (rl : RL ss fs R) (hG : HG h) (hd : seqD h d = some R) : W2 ((runD O 2 b_Program_of [.cls 0, d] h).bind (fin false N0)) fun z h' => z = pgm R ∧ h' = h := by
  apply W2.run
  walk_at "env"
  unfold b_Program_of
  walk_at "w"
  walk_at "w"
  refine W2.prog nf rl hG rfl rfl hd ?_
  exact Kn.rt (W2.finF ⟨rfl, rfl⟩)
theorem W2.attP {O : Orc} [Sy O] {a : ME} {σ : En} {h : MH} {R : List D} {Q : D → MH → Prop} (ha : (sem O a).v σ h = some (pgm R, h)) (q : Q (.tup R) h) : W2 ((sem O (.att a 0)).v σ h) Q := by
  apply W2.att
  exact W2.eq ha ⟨0, _, _, rfl, by rw [Sy.okF]; rfl, rfl, q⟩
theorem rows_run {O : Orc} [Sy O] {N0 : Nat} {h : MH} {R : List D} : W2 ((runD O 1 b_Program_rows [pgm R] h).bind (fin false N0)) fun z h' => z = .tup R ∧ h' = h := by
  apply W2.run
  walk_at "env"
  unfold b_Program_rows
  walk_at "w"
  walk_at "w"
  refine W2.attP rfl ?_
  exact Kn.rt (W2.finF ⟨rfl, rfl⟩)
mutual
theorem deq_self : ∀ {n : Nat} {d : D}, plain n d = true → deq d d = true
  | _, .non, _ => rfl
  | _, .bl b, _ => by cases b <;> rfl
  | _, .int i, _ => by show (i == i) = true; exact beq_self_eq_true i
  | _, .str s, _ => by show (s == s) = true; exact beq_self_eq_true s
  | n + 1, .tup xs, h => deqs_self (n := n) (ds := xs) h
  | n + 1, .lst xs, h => deqs_self (n := n) (ds := xs) h
  | 0, .tup xs, hp => by cases hp
  | 0, .lst xs, hp => by cases hp
  | n, .dct _ _, hp => by cases n <;> cases hp
  | n, .kdc _ _, hp => by cases n <;> cases hp
  | n, .scr _, hp => by cases n <;> cases hp
  | n, .adr _, hp => by cases n <;> cases hp
  | n, .obj _ _, hp => by cases n <;> cases hp
  | n, .rep _, hp => by cases n <;> cases hp
theorem deqs_self : ∀ {n : Nat} {ds : List D}, plains n ds = true → deqs ds ds = true
  | _, [], _ => rfl
  | n, x :: xs, h => by
    have h2 := Bool.and_eq_true_iff.mp h
    show (deq x x && deqs xs xs) = true
    rw [deq_self h2.1, deqs_self h2.2]
    rfl
end
mutual
theorem plain_mono : ∀ {n m : Nat} {d : D}, plain n d = true → n ≤ m → plain m d = true
  | n, m, .non, _, _ => by cases m <;> rfl
  | n, m, .bl _, _, _ => by cases m <;> rfl
  | n, m, .int _, _, _ => by cases m <;> rfl
  | n, m, .str _, _, _ => by cases m <;> rfl
  | n + 1, m + 1, .tup xs, hp, hm => plains_mono (n := n) (m := m) (ds := xs) hp (by omega)
  | n + 1, m + 1, .lst xs, hp, hm => plains_mono (n := n) (m := m) (ds := xs) hp (by omega)
  | n + 1, 0, _, _, hm => absurd hm (by omega)
  | 0, _, .tup xs, hp, _ => by cases hp
  | 0, _, .lst xs, hp, _ => by cases hp
  | n, _, .dct _ _, hp, _ => by cases n <;> cases hp
  | n, _, .kdc _ _, hp, _ => by cases n <;> cases hp
  | n, _, .scr _, hp, _ => by cases n <;> cases hp
  | n, _, .adr _, hp, _ => by cases n <;> cases hp
  | n, _, .obj _ _, hp, _ => by cases n <;> cases hp
  | n, _, .rep _, hp, _ => by cases n <;> cases hp
theorem plains_mono : ∀ {n m : Nat} {ds : List D}, plains n ds = true → n ≤ m → plains m ds = true
  | _, _, [], _, _ => rfl
  | n, m, x :: xs, hp, hm => by
    have h2 := Bool.and_eq_true_iff.mp hp
    show (plain m x && plains m xs) = true
    rw [plain_mono h2.1 hm, plains_mono h2.2 hm]
    rfl
end
theorem eq_run {O : Orc} [Sy O] {N0 : Nat} {h : MH} {R : List D} (hp : plains 50 R = true) : W2 ((runD O 2 b_Program___eq__ [pgm R, pgm R] h).bind (fin false N0)) fun z h' => z = .bl true ∧ h' = h := by
  have hp2 : plain 60 (.tup R) = true := plains_mono hp (by decide)
  apply W2.run
  walk_at "env"
  unfold b_Program___eq__
  walk_at "w"
  walk_at "w"
  apply W2.and
  apply W2.isc
  refine W2.eq rfl ⟨_, rfl, by rw [Sy.okX]; rfl, ⟨true, rfl, fun _ => ?_, fun c => by cases c⟩⟩
  apply W2.and1
  apply W2.cmp
  refine W2.attP rfl (W2.attP rfl (W1.eqP hp2 hp2 ?_))
  rw [deq_self hp2]
  exact Kn.rt (W2.finF ⟨rfl, rfl⟩)
theorem len_run {O : Orc} [Sy O] {N0 : Nat} {h : MH} {R : List D} : W2 ((runD O 1 b_Program___len__ [pgm R] h).bind (fin false N0)) fun z h' => z = .int R.length ∧ h' = h := by
  apply W2.run
  walk_at "env"
  unfold b_Program___len__
  walk_at "w"
  walk_at "w"
  walk_at "w"
  walk_at "w"
  refine W2.attP rfl ?_
  repeat walk_at "w"
  exact ⟨rfl, rfl⟩
instance (k : Nat) : Po (orc SY (k + 7)) := ⟨fun h ss fs R d nf rl hG hd => of_run (O := orc SY (k + 6)) (N0 := h.length) nf rl hG hd, fun h R => rows_run (O := orc SY (k + 6)) (N0 := h.length), fun h R hp => eq_run (O := orc SY (k + 6)) (N0 := h.length) hp, fun h R => len_run (O := orc SY (k + 6)) (N0 := h.length)⟩
end EV

set_option Elab.async false
set_option linter.all false
set_option maxRecDepth 100000
set_option maxHeartbeats 1000000
namespace EV
open PySem
local macro_rules | `(tactic| walk_at "w") => `(tactic| first | ((with_reducible apply W2.var); exact rfl) | with_reducible apply W2.cst | with_reducible apply W2.evnil | with_reducible apply W2.evcons | with_reducible apply W2.tup | with_reducible apply W2.lstT | with_reducible apply W2.lstF | with_reducible apply W2.bin | with_reducible apply W2.idx | with_reducible apply W2.cmpT | with_reducible apply W2.cmp | with_reducible apply W2.neg | with_reducible apply W2.ntT | with_reducible apply W2.nt | with_reducible apply W2.and1T | with_reducible apply W2.andT | with_reducible apply W2.or1T | with_reducible apply W2.orT | with_reducible apply W2.and1 | with_reducible apply W2.and | with_reducible apply W2.ife | with_reducible apply W2.pNone | with_reducible apply W2.pSome | with_reducible apply W2.slc | with_reducible apply W2.isi | ((with_reducible apply W2.callS); exact rfl) | ((with_reducible apply W2.cmtS); exact rfl) | ((with_reducible apply W2.mkC); exact rfl) | ((with_reducible apply W2.mk0C); exact rfl) | ((with_reducible apply W2.mkSC); exact rfl) | with_reducible apply W2.bif | with_reducible apply W2.bim | with_reducible apply W2.att | with_reducible apply W2.meth | with_reducible apply W2.kmt | with_reducible apply W2.prp | with_reducible apply W2.sob | with_reducible apply W2.lno | with_reducible apply W2.eqo | with_reducible apply W2.isc | with_reducible apply W2.frz | with_reducible apply W2.gcl | with_reducible apply W2.rng1 | with_reducible apply W2.enm | ((with_reducible apply okL_and); exact rfl) | ((with_reducible apply W2.tV); exact rfl) | ((with_reducible apply W2.wV); exact rfl) | with_reducible apply W1.truB | with_reducible apply W1.itL | with_reducible apply W1.itT | with_reducible apply W1.add | with_reducible apply W1.sub | with_reducible apply W1.lt | with_reducible apply W1.le | with_reducible apply W1.gt | with_reducible apply W1.ge | with_reducible apply W1.eqI | with_reducible apply W1.neI | with_reducible apply W1.eqS | with_reducible apply W1.neS | with_reducible apply W1.isN | with_reducible apply W1.notN | with_reducible apply W1.isB | with_reducible apply W2.finF | with_reducible apply W2.lenT | with_reducible apply W2.lenL | with_reducible apply W3.cons | with_reducible apply W3.nil | with_reducible apply W3.asg | with_reducible apply W3.asgT | with_reducible apply W3.par | with_reducible apply W3.ex | with_reducible apply W3.ret | with_reducible apply W3.pas | with_reducible apply W3.ite | with_reducible apply W3.fset | with_reducible apply W3.for | with_reducible apply W3.forE | with_reducible apply Kn.nx | with_reducible apply Kn.rt | with_reducible apply W3.turnN)
local macro_rules | `(tactic| walk_at "env") => `(tactic| simp only [List.map_cons, List.map_nil, List.length_cons, List.length_nil, Nat.zero_add, Nat.reduceAdd, Nat.reduceSub, List.reduceReplicate, List.cons_append, List.nil_append, List.set_cons_zero, List.set_cons_succ])
/-! ### sheets -/
/-- at s a sheet with these rows, its past at p, the source at i -/
structure St (n i m s p : Nat) (R : List D) (h : MH) : Prop where
  g : HG h
  a : AtH n i h
  sh : h[s]? = some (.ins 1 [(1, pgm R), (2, .adr p)])
  pa : ∃ ps, h[p]? = some (.lst ps) ∧ ps.length ≤ m
  n1 : i ≠ s
  n2 : i ≠ p
  n3 : s ≠ p
theorem fzs_flat {xs : List D} (hp : plains 10 xs = true) (N : Nat) (H : MH) : fzO N H 12 (.lst xs) = some (.lst xs) := by
  show (eachM (fz N H 12) xs).map MO.lst = _
  rw [fzs_plain hp (by decide)]
  rfl
theorem HG.adv {n i : Nat} {h h' : MH} (g : HG h) (a : Adv n i h h') : HG h' := by
  obtain ⟨hi, s, rfl, S⟩ := a
  obtain ⟨x, y, z, rfl⟩ := S.eq
  exact g.put fun N H _ => fzs_flat rfl N H
theorem St.adv {n n' i m s p : Nat} {R : List D} {h h' : MH} (t : St n i m s p R h) (a : Adv n' i h h') : St n' i m s p R h' := by
  have b := a
  obtain ⟨hi, o, rfl, S⟩ := a
  obtain ⟨ps, e, l⟩ := t.pa
  exact ⟨t.g.adv b, b.at, by rw [List.getElem?_set_ne t.n1]; exact t.sh, ⟨ps, by rw [List.getElem?_set_ne t.n2]; exact e, l⟩, t.n1, t.n2, t.n3⟩
theorem get_app {h t : MH} {j : Nat} {o : MO} (e : h[j]? = some o) : (h ++ t)[j]? = some o := by rw [List.getElem?_append_left (List.getElem?_eq_some_iff.mp e).1]; exact e
theorem St.push {n i m s p : Nat} {R xs : List D} {h : MH} (t : St n i m s p R h) (hp : plains 10 xs = true) : St n i m s p R (h ++ [.lst xs]) := by
  obtain ⟨ps, e, l⟩ := t.pa
  exact ⟨t.g.push fun N H _ => fzs_flat hp N H, t.a.app _, get_app t.sh, ⟨ps, get_app e, l⟩, t.n1, t.n2, t.n3⟩
theorem St.mono {n n' i m m' s p : Nat} {R : List D} {h : MH} (t : St n i m s p R h) (h1 : n ≤ n') (h2 : m ≤ m') : St n' i m' s p R h := by
  obtain ⟨ps, e, l⟩ := t.pa
  exact ⟨t.g, t.a.mono h1, t.sh, ⟨ps, e, by omega⟩, t.n1, t.n2, t.n3⟩
/-- a field of the sheet -/
theorem W2.attS {O : Orc} [Sy O] {a : ME} {σ : En} {h h1 : MH} {n i m s p f : Nat} {R : List D} {v : D} {Q : D → MH → Prop} (t : St n i m s p R h1) (ha : (sem O a).v σ h = some (.adr s, h1)) (hf : f = 1 ∧ v = pgm R ∨ f = 2 ∧ v = .adr p) (q : Q v h1) : W2 ((sem O (.att a f)).v σ h) Q := by
  have e : insD h1 (.adr s) = some (1, [(1, pgm R), (2, .adr p)]) := by
    show (match h1[s]? with
      | some (.ins c fs) => some (c, fs)
      | _ => none) = _
    rw [t.sh]
  apply W2.att
  rcases hf with ⟨rfl, rfl⟩ | ⟨rfl, rfl⟩
  · exact W2.eq ha ⟨1, _, _, e, by rw [Sy.okF]; rfl, rfl, q⟩
  · exact W2.eq ha ⟨1, _, _, e, by rw [Sy.okF]; rfl, rfl, q⟩
theorem St.ins {n i m s p : Nat} {R : List D} {h1 : MH} (t : St n i m s p R h1) : insD h1 (.adr s) = some (1, [(1, pgm R), (2, .adr p)]) := by
  show (match h1[s]? with
    | some (.ins c fs) => some (c, fs)
    | _ => none) = _
  rw [t.sh]
/-- a method of the sheet -/
theorem W2.metS {O : Orc} [Sy O] {o : ME} {es : List ME} {σ : En} {h h1 : MH} {n i m s p f : Nat} {R : List D} {Q : D → MH → Prop} (t : St n i m s p R h1) (ho : (sem O o).v σ h = some (.adr s, h1)) (hf : SY.okM 1 f = true) (w : W2 (evs (sems O es) σ h1) fun ds h2 => W2 (O.call f (.adr s :: ds) h2) Q) : W2 ((sem O (.meth f o es)).v σ h) Q := by
  apply W2.meth
  exact W2.eq ho ⟨1, _, t.ins, by rw [Sy.okM, Sy.okF, hf]; rfl, w⟩
theorem W2.prpS {O : Orc} [Sy O] {o : ME} {σ : En} {h h1 : MH} {n i m s p f : Nat} {R : List D} {Q : D → MH → Prop} (t : St n i m s p R h1) (ho : (sem O o).v σ h = some (.adr s, h1)) (hf : SY.okX 1 1 f = true) (w : W2 (O.call f [.adr s] h1) Q) : W2 ((sem O (.prp o f)).v σ h) Q := by
  apply W2.prp
  exact W2.eq ho ⟨1, _, t.ins, by rw [Sy.okX]; exact hf, w⟩
theorem W2.prpP {O : Orc} [Sy O] [Po O] {o : ME} {σ : En} {h h1 : MH} {R : List D} {Q : D → MH → Prop} (ho : (sem O o).v σ h = some (pgm R, h1)) (q : Q (.tup R) h1) : W2 ((sem O (.prp o 19)).v σ h) Q := by
  apply W2.prp
  refine W2.eq ho ⟨0, _, rfl, by rw [Sy.okX]; rfl, ?_⟩
  exact (Po.rows (O := O) h1 R).mono fun d h2 ⟨e1, e2⟩ => by subst e1 e2; exact q
theorem spr_eq (k : Nat) (x : D) (h : MH) : cl (k + 1) 23 [x] h = (runD (orc SY k) 1 b_Sheet_program [x] h).bind (fin false h.length) := rfl
theorem srw_eq (k : Nat) (x : D) (h : MH) : cl (k + 1) 24 [x] h = (runD (orc SY k) 1 b_Sheet_rows [x] h).bind (fin false h.length) := rfl
theorem sln_eq (k : Nat) (x : D) (h : MH) : cl (k + 1) 26 [x] h = (runD (orc SY k) 1 b_Sheet___len__ [x] h).bind (fin false h.length) := rfl
theorem slk_eq (k : Nat) (x y : D) (h : MH) : cl (k + 1) 27 [x, y] h = (runD (orc SY k) 2 b_Sheet_look [x, y] h).bind (fin false h.length) := rfl
theorem sed_eq (k : Nat) (x y : D) (h : MH) : cl (k + 1) 28 [x, y] h = (runD (orc SY k) 3 b_Sheet_edited [x, y] h).bind (fin false h.length) := rfl
theorem sli_eq (k : Nat) (x y z : D) (h : MH) : cl (k + 1) 29 [x, y, z] h = (runD (orc SY k) 3 b_Sheet_look_index [x, y, z] h).bind (fin false h.length) := rfl
theorem isx_eq (k : Nat) (x y : D) (h : MH) : cl (k + 1) 11 [x, y] h = (runD (orc SY k) 2 b_is_index [x, y] h).bind (fin false h.length) := rfl
section
variable {O : Orc} [Sy O] {N0 n i m s p : Nat} {h : MH} {R : List D}
theorem spr_run (t : St n i m s p R h) : W2 ((runD O 1 b_Sheet_program [.adr s] h).bind (fin false N0)) fun z h' => z = pgm R ∧ h' = h := by
  apply W2.run
  walk_at "env"
  unfold b_Sheet_program
  walk_at "w"
  walk_at "w"
  refine W2.attS t rfl (.inl ⟨rfl, rfl⟩) ?_
  exact Kn.rt (W2.finF ⟨rfl, rfl⟩)
theorem srw_run [Po O] (t : St n i m s p R h) : W2 ((runD O 1 b_Sheet_rows [.adr s] h).bind (fin false N0)) fun z h' => z = .tup R ∧ h' = h := by
  apply W2.run
  walk_at "env"
  unfold b_Sheet_rows
  walk_at "w"
  walk_at "w"
  obtain ⟨z, h1, e, rfl, rfl⟩ := W2.attS (O := O) (σ := [some (.adr s)]) (a := .var 0) t rfl (.inl ⟨rfl, rfl⟩) (Q := fun z h' => z = pgm R ∧ h' = h) ⟨rfl, rfl⟩
  refine W2.prpP e ?_
  exact Kn.rt (W2.finF ⟨rfl, rfl⟩)
theorem sln_run [Po O] (t : St n i m s p R h) (hl : R.length ≤ 6) : W2 ((runD O 1 b_Sheet___len__ [.adr s] h).bind (fin false N0)) fun z h' => z = .int R.length ∧ h' = h := by
  apply W2.run
  walk_at "env"
  unfold b_Sheet___len__
  walk_at "w"
  walk_at "w"
  apply W2.lno
  refine W2.attS t rfl (.inl ⟨rfl, rfl⟩) ⟨0, _, rfl, by rw [Sy.okX]; rfl, ?_⟩
  refine (Po.len (O := O) h R).mono fun d h1 ⟨e1, e2⟩ => ?_
  subst e1 e2
  exact ⟨_, rfl, by omega, by omega, Kn.rt (W2.finF ⟨rfl, rfl⟩)⟩
theorem slk_run {x y : D} : W2 ((runD O 2 b_Sheet_look [x, y] h).bind (fin false N0)) fun z h' => z = .non ∧ h' = h := by
  apply W2.run
  walk_at "env"
  unfold b_Sheet_look
  repeat walk_at "w"
  exact ⟨rfl, rfl⟩
theorem W1.isI {x : Int} {Q : Bool → Prop} (q : Q true) : W1 (isTs h (.int x) [.int]) Q := .eq rfl q
theorem W1.isIB {x : Int} {Q : Bool → Prop} (q : Q false) : W1 (isTs h (.int x) [.bool]) Q := .eq rfl q
theorem isx_run {a b : Int} (h0 : 0 ≤ a) (h1 : a < b) : W2 ((runD O 2 b_is_index [.int a, .int b] h).bind (fin false N0)) fun z h' => z = .bl true ∧ h' = h := by
  apply W2.run
  walk_at "env"
  unfold b_is_index
  walk_at "w"
  walk_at "w"
  apply W2.and
  apply W2.isi
  apply W2.var rfl
  refine W1.isI ⟨true, rfl, fun _ => ?_, fun c => by cases c⟩
  apply W2.and
  apply W2.nt
  apply W2.isi
  apply W2.var rfl
  refine W1.isIB ?_
  apply W1.truB
  refine ⟨true, rfl, fun _ => ?_, fun c => by cases c⟩
  apply W2.and1
  refine W2.eq (x := .bl true) (h := h) ?_ (Kn.rt (W2.finF ⟨rfl, rfl⟩))
  simp [chain, cmpD, cmpI, cmpB, h0, h1]
end
class S1 (O : Orc) : Prop where
  prog : ∀ (n i m s p : Nat) (R : List D) (h : MH), St n i m s p R h → W2 (O.call 23 [.adr s] h) fun z h' => z = pgm R ∧ h' = h
  rows : ∀ (n i m s p : Nat) (R : List D) (h : MH), St n i m s p R h → W2 (O.call 24 [.adr s] h) fun z h' => z = .tup R ∧ h' = h
  len : ∀ (n i m s p : Nat) (R : List D) (h : MH), St n i m s p R h → R.length ≤ 6 → W2 (O.call 26 [.adr s] h) fun z h' => z = .int R.length ∧ h' = h
  look : ∀ (x y : D) (h : MH), W2 (O.call 27 [x, y] h) fun z h' => z = .non ∧ h' = h
  isx : ∀ (a b : Int) (h : MH), 0 ≤ a → a < b → W2 (O.call 11 [.int a, .int b] h) fun z h' => z = .bl true ∧ h' = h
instance (k : Nat) : S1 (orc SY (k + 8)) := ⟨fun n i m s p R h t => spr_run (O := orc SY (k + 7)) (N0 := h.length) t, fun n i m s p R h t => srw_run (O := orc SY (k + 7)) (N0 := h.length) t, fun n i m s p R h t hl => sln_run (O := orc SY (k + 7)) (N0 := h.length) t hl, fun x y h => slk_run (O := orc SY (k + 7)) (N0 := h.length) (x := x) (y := y), fun a b h h0 h1 => isx_run (O := orc SY (k + 7)) (N0 := h.length) h0 h1⟩
section
variable {O : Orc} [Sy O] {N0 n i m s p : Nat} {h : MH} {R : List D} {ss fs : List S}
theorem sli_run [S1 O] {x : D} {a b : Int} (h0 : 0 ≤ a) (h1 : a < b) : W2 ((runD O 3 b_Sheet_look_index [x, .int a, .int b] h).bind (fin false N0)) fun z h' => z = .non ∧ h' = h := by
  apply W2.run
  walk_at "env"
  unfold b_Sheet_look_index
  repeat walk_at "w"
  refine (S1.isx (O := O) a b h h0 h1).mono fun d h1 ⟨e1, e2⟩ => ?_
  subst e1 e2
  repeat walk_at "w"
  exact ⟨fun c => (by cases c), fun _ => W3.nil (Kn.nx (W3.nil (W2.finF ⟨rfl, rfl⟩)))⟩
theorem eachM_app {f : D → Option D} : ∀ {xs ys xs' ys' : List D}, eachM f xs = some xs' → eachM f ys = some ys' → eachM f (xs ++ ys) = some (xs' ++ ys')
  | [], ys, _, ys', e1, e2 => by cases e1; exact e2
  | x :: xs, ys, xs', ys', e1, e2 => by
    unfold eachM at e1
    split at e1
    · rename_i y zs h1 h2
      cases e1
      have := eachM_app h2 e2
      rw [List.cons_append]
      unfold eachM
      rw [h1, this]
      rfl
    · cases e1
theorem sed_run [S1 O] [Pm O] {R' : List D} {d : D} (nf : NF ss fs) (hR : plains 1 R = true) (rl : RL ss fs R') (t : St n i m s p R h) (hm : m < 1000) (hd : seqD h d = some R') : W2 ((runD O 3 b_Sheet_edited [.adr s, d] h).bind (fin false N0)) fun z h' => z = .non ∧ St n i (m + 1) s p R' h' ∧ h'.length = h.length ∧ ∀ j, j ≠ s → j ≠ p → h'[j]? = h[j]? := by
  have ⟨ps, hp, hpl⟩ := t.pa
  have hs := (List.getElem?_eq_some_iff.mp t.sh).1
  have hpp := (List.getElem?_eq_some_iff.mp hp).1
  apply W2.run
  walk_at "env"
  unfold b_Sheet_edited
  walk_at "w"
  walk_at "w"
  refine W2.prog nf rl t.g rfl rfl hd ?_
  apply Kn.nx
  walk_at "env"
  walk_at "w"
  walk_at "w"
  refine W2.metS t rfl rfl ?_
  repeat walk_at "w"
  refine (S1.look (O := O) _ _ h).mono fun d2 h1 ⟨e1, e2⟩ => ?_
  subst e1 e2
  apply Kn.nx
  walk_at "w"
  walk_at "w"
  apply W2.bim
  refine W2.attS t rfl (.inr ⟨rfl, rfl⟩) ⟨?_, ?_⟩
  · show (lstD h1 (.adr p)).isSome = true
    simp [lstD, hp]
  walk_at "w"
  refine W2.attS t rfl (.inl ⟨rfl, rfl⟩) ?_
  walk_at "w"
  refine W2.eq (x := .non) (h := h1.set p (.lst (ps ++ [pgm R]))) ?_ ?_
  · show appendM h1 (.adr p) [pgm R] = _
    unfold appendM
    dsimp only
    rw [hp]
    dsimp only
    rw [if_pos (show okL (ps.length + 1) = true from decide_eq_true (by omega))]
  apply Kn.nx
  walk_at "w"
  apply W3.fset
  apply W2.var rfl
  apply W2.var rfl
  refine ⟨s, 1, [(1, pgm R), (2, .adr p)], rfl, by rw [List.getElem?_set_ne (Ne.symm t.n3)]; exact t.sh, (by simp), by rw [Sy.okF]; rfl, ?_⟩
  apply Kn.nx
  apply W3.nil
  apply W2.finF
  have hfz : ∀ (N : Nat) (H : MH), h1.length ≤ N → fzO N H 12 (.lst (ps ++ [pgm R])) = some (.lst (ps ++ [pgm R])) := fun N H hN => by
    have e0 := t.g (.lst ps) (List.mem_of_getElem? hp) N H hN
    have e1 : (eachM (fz N H 12) ps).map MO.lst = some (.lst ps) := e0
    obtain ⟨qs, e2, e3⟩ := Option.map_eq_some_iff.mp e1
    cases e3
    show (eachM (fz N H 12) (ps ++ [pgm R])).map MO.lst = _
    rw [eachM_app e2 (eachM_one (fz_pgm hR (by decide)))]
    rfl
  have g2 : HG (h1.set p (.lst (ps ++ [pgm R]))) := t.g.put hfz
  have hsfz : ∀ (N : Nat) (H : MH), (h1.set p (.lst (ps ++ [pgm R]))).length ≤ N → fzO N H 12 (.ins 1 [(1, pgm R'), (2, .adr p)]) = some (.ins 1 [(1, pgm R'), (2, .adr p)]) := fun N H hN => by
    rw [List.length_set] at hN
    have e1 : fz N H 12 (pgm R') = some (pgm R') := fz_pgm (plains_pr rl.pr) (by decide)
    have e2 : fz N H 12 (.adr p) = some (.adr p) := if_pos (by omega)
    show (eachM (fz N H 12) [pgm R', .adr p]).map (fun vs => MO.ins 1 ([1, 2].zip vs)) = _
    rw [show ([pgm R', D.adr p] : List D) = [pgm R'] ++ [.adr p] from rfl, eachM_app (eachM_one e1) (eachM_one e2)]
    rfl
  refine ⟨rfl, ⟨g2.put hsfz, ?_, ?_, ?_, t.n1, t.n2, t.n3⟩, by simp, fun j k1 k2 => by rw [List.getElem?_set_ne (Ne.symm k1), List.getElem?_set_ne (Ne.symm k2)]⟩
  · obtain ⟨o, ho, S⟩ := t.a
    exact ⟨o, by rw [List.getElem?_set_ne (Ne.symm t.n1), List.getElem?_set_ne (Ne.symm t.n2)]; exact ho, S⟩
  · exact List.getElem?_set_self (by simpa using hs)
  · exact ⟨_, by rw [List.getElem?_set_ne t.n3]; exact List.getElem?_set_self hpp, by simp; omega⟩
end
class S2 (O : Orc) : Prop where
  li : ∀ (x : D) (a b : Int) (h : MH), 0 ≤ a → a < b → W2 (O.call 29 [x, .int a, .int b] h) fun z h' => z = .non ∧ h' = h
  ed : ∀ (n i m s p : Nat) (R R' : List D) (ss fs : List S) (d : D) (h : MH), NF ss fs → RL ss fs R → RL ss fs R' → St n i m s p R h → m < 1000 → seqD h d = some R' → W2 (O.call 28 [.adr s, d] h) fun z h' => z = .non ∧ St n i (m + 1) s p R' h' ∧ h'.length = h.length ∧ ∀ j, j ≠ s → j ≠ p → h'[j]? = h[j]?
instance (k : Nat) : S2 (orc SY (k + 9)) := ⟨fun x a b h h0 h1 => sli_run (O := orc SY (k + 8)) (N0 := h.length) h0 h1, fun n i m s p R R' ss fs d h nf r1 r2 t hm hd => sed_run (O := orc SY (k + 8)) (N0 := h.length) nf (plains_pr r1.pr) r2 t hm hd⟩
end EV

set_option Elab.async false
set_option linter.all false
set_option maxRecDepth 100000
set_option maxHeartbeats 1000000
namespace EV
open PySem
local macro_rules | `(tactic| walk_at "w") => `(tactic| first | ((with_reducible apply W2.var); exact rfl) | with_reducible apply W2.cst | with_reducible apply W2.evnil | with_reducible apply W2.evcons | with_reducible apply W2.tup | with_reducible apply W2.lstT | with_reducible apply W2.lstF | with_reducible apply W2.bin | with_reducible apply W2.idx | with_reducible apply W2.cmpT | with_reducible apply W2.cmp | with_reducible apply W2.neg | with_reducible apply W2.ntT | with_reducible apply W2.nt | with_reducible apply W2.and1T | with_reducible apply W2.andT | with_reducible apply W2.or1T | with_reducible apply W2.orT | with_reducible apply W2.and1 | with_reducible apply W2.and | with_reducible apply W2.ife | with_reducible apply W2.pNone | with_reducible apply W2.pSome | with_reducible apply W2.slc | with_reducible apply W2.isi | ((with_reducible apply W2.callS); exact rfl) | ((with_reducible apply W2.cmtS); exact rfl) | ((with_reducible apply W2.mkC); exact rfl) | ((with_reducible apply W2.mk0C); exact rfl) | ((with_reducible apply W2.mkSC); exact rfl) | with_reducible apply W2.bif | with_reducible apply W2.bim | with_reducible apply W2.att | with_reducible apply W2.meth | with_reducible apply W2.kmt | with_reducible apply W2.prp | with_reducible apply W2.sob | with_reducible apply W2.lno | with_reducible apply W2.eqo | with_reducible apply W2.isc | with_reducible apply W2.frz | with_reducible apply W2.gcl | with_reducible apply W2.rng1 | with_reducible apply W2.enm | ((with_reducible apply okL_and); exact rfl) | ((with_reducible apply W2.tV); exact rfl) | ((with_reducible apply W2.wV); exact rfl) | with_reducible apply W1.truB | with_reducible apply W1.itL | with_reducible apply W1.itT | with_reducible apply W1.add | with_reducible apply W1.sub | with_reducible apply W1.lt | with_reducible apply W1.le | with_reducible apply W1.gt | with_reducible apply W1.ge | with_reducible apply W1.eqI | with_reducible apply W1.neI | with_reducible apply W1.eqS | with_reducible apply W1.neS | with_reducible apply W1.isN | with_reducible apply W1.notN | with_reducible apply W1.isB | with_reducible apply W2.finF | with_reducible apply W2.lenT | with_reducible apply W2.lenL | with_reducible apply W3.cons | with_reducible apply W3.nil | with_reducible apply W3.asg | with_reducible apply W3.asgT | with_reducible apply W3.par | with_reducible apply W3.ex | with_reducible apply W3.ret | with_reducible apply W3.pas | with_reducible apply W3.ite | with_reducible apply W3.fset | with_reducible apply W3.for | with_reducible apply W3.forE | with_reducible apply Kn.nx | with_reducible apply Kn.rt | with_reducible apply W3.turnN)
local macro_rules | `(tactic| walk_at "env") => `(tactic| simp only [List.map_cons, List.map_nil, List.length_cons, List.length_nil, Nat.zero_add, Nat.reduceAdd, Nat.reduceSub, List.reduceReplicate, List.cons_append, List.nil_append, List.set_cons_zero, List.set_cons_succ])
theorem W2.lenA {h : MH} {j : Nat} {xs : List D} {Q : D → MH → Prop} (e : h[j]? = some (.lst xs)) (q : Q (.int xs.length) h) : W2 (bifD .len [.adr j] h) Q := by
  refine .eq ?_ q
  show (match seqD h (.adr j) with
    | some xs => some (D.int xs.length, h)
    | none => none) = _
  simp only [seqD, e]
theorem ixs {h : MH} {j : Nat} {xs : List D} (e : h[j]? = some (.lst xs)) : seqD h (.adr j) = some xs := by
  simp only [seqD, e]
theorem ixl {h : MH} {j : Nat} {xs : List D} (e : h[j]? = some (.lst xs)) : lstD h (.adr j) = some xs := by
  simp only [lstD, e]
/-- r put in ahead of place j -/
def ins (R : List D) (j : Nat) (r : D) : List D := R.take j ++ r :: R.drop j
theorem RL.ins {ss fs : List S} {R : List D} {r : D} {j : Nat} (rl : RL ss fs R) (hr : PR ss fs r) (h6 : R.length < 6) : RL ss fs (ins R j r) := by
  refine ⟨fun x hx => ?_, ?_⟩
  · rcases List.mem_append.mp hx with hx | hx
    · exact rl.pr x (List.mem_of_mem_take hx)
    · rcases List.mem_cons.mp hx with rfl | hx
      · exact hr
      · exact rl.pr x (List.mem_of_mem_drop hx)
  · unfold EV.ins
    rw [List.length_append, List.length_cons, List.length_take, List.length_drop]
    omega
section
variable {O : Orc} [Sy O] {N0 n i m s p : Nat} {h : MH} {R : List D} {ss fs : List S}
theorem W2.rowsS [S1 O] {σ : En} {Q : D → MH → Prop} (t : St n i m s p R h) (h0 : σ[0]? = some (some (.adr s))) (q : Q (.tup R) h) : W2 ((sem O (.prp (.var 0) 24)).v σ h) Q := by
  refine W2.prpS t (by rw [v_var, h0]) rfl ?_
  exact (S1.rows (O := O) n i m s p R h t).mono fun d h1 ⟨e1, e2⟩ => by subst e1 e2; exact q
theorem W2.listF {h : MH} {xs : List D} {Q : D → MH → Prop} (q : Q (.adr h.length) (h ++ [.lst xs])) : W2 (bifD (.list false) [.tup xs] h) Q := .eq rfl q
def putT : List MS := [.ite (.nt (.call 3 [(.var 1)])) [.nev] [],
  .ex (.bim .insert (.var 3) [(.ife (.cmp .Is (.var 2) (.cst .non)) (.bif .len [(.var 3)]) (.var 2)), (.var 1)]),
  .ex (.meth 28 (.var 0) [(.var 3)])]
theorem put_tail [S2 O] [Bs O] {r w : D} {j : Nat} (nf : NF ss fs) (rl : RL ss fs R) (hr : PR ss fs r) (h6 : R.length < 6) (t : St n i m s p R h) (hm : m < 1000) (hw : w = .non ∧ j = R.length ∨ w = .int j ∧ j ≤ R.length) :
    W3 (execs O putT [some (.adr s), some r, some w, some (.adr h.length)] (h ++ [.lst R])) fun f _ h' => f = .nx ∧ St n i (m + 1) s p (ins R j r) h' := by
  have hl := rl.l
  have hg : (h ++ [MO.lst R])[h.length]? = some (.lst R) := get_last rfl
  unfold putT
  repeat walk_at "w"
  refine W2.eq (Bs.row r _ (hr.pw nf.s.n nf.f.n)) ?_
  repeat walk_at "w"
  refine ⟨fun c => (by cases c), fun _ => W3.nil (Kn.nx ?_)⟩
  walk_at "w"
  walk_at "w"
  apply W2.bim
  apply W2.var rfl
  refine ⟨by show (lstD _ _).isSome = true; rw [ixl hg]; rfl, ?_⟩
  walk_at "w"
  refine W2.eq (x := .int j) (h := h ++ [.lst R]) ?_ ?_
  · rcases hw with ⟨rfl, rfl⟩ | ⟨rfl, _⟩
    · obtain ⟨d, h1, e, rfl, rfl⟩ := W2.lenA (h := h ++ [MO.lst R]) (j := h.length) hg (Q := fun d h1 => d = .int R.length ∧ h1 = h ++ [MO.lst R]) ⟨rfl, rfl⟩
      have e2 : lenB (h ++ [MO.lst R]) [.adr h.length] = _ := e
      simp [ifV, two, cmpB, cmpD, isD, isNonD, truS, truD, bifS, bifD, e2]
    · simp [ifV, two, cmpB, cmpD, isD, isNonD, truS, truD]
  walk_at "w"
  apply W2.var rfl
  apply W2.evnil
  have hj : j ≤ R.length := by rcases hw with ⟨_, e⟩ | ⟨_, e⟩ <;> omega
  refine W2.eq (x := .non) (h := h ++ [.lst (ins R j r)]) ?_ ?_
  · show insertM (h ++ [.lst R]) (.adr h.length) [.int j, r] = _
    unfold insertM
    dsimp only
    rw [hg]
    dsimp only
    rw [if_pos, set_last rfl]
    · rfl
    · rw [Bool.and_eq_true]
      exact ⟨decide_eq_true (by omega), decide_eq_true (by omega)⟩
  apply Kn.nx
  walk_at "w"
  walk_at "w"
  have rl2 := rl.ins (j := j) hr h6
  have t2 : St n i m s p R (h ++ [.lst (ins R j r)]) := t.push (plains_mono (plains_pr rl2.pr) (by decide))
  refine W2.metS t2 rfl rfl ?_
  repeat walk_at "w"
  refine (S2.ed (O := O) n i m s p R (ins R j r) ss fs _ _ nf rl rl2 t2 hm (ixs (get_last rfl))).mono fun d h2 ⟨e1, e2, e3⟩ => ?_
  subst e1
  exact Kn.nx (W3.nil ⟨rfl, e2⟩)
theorem put_run [S1 O] [S2 O] [Bs O] {r w : D} {j : Nat} (nf : NF ss fs) (rl : RL ss fs R) (hr : PR ss fs r) (h6 : R.length < 6) (t : St n i m s p R h) (hm : m < 1000) (hw : w = .non ∧ j = R.length ∨ w = .int j ∧ j ≤ R.length) :
    W2 ((runD O 4 b_Sheet_put [.adr s, r, w] h).bind (fin false N0)) fun z h' => z = .non ∧ St n i (m + 1) s p (ins R j r) h' := by
  have hl := rl.l
  apply W2.run
  walk_at "env"
  unfold b_Sheet_put
  walk_at "w"
  walk_at "w"
  walk_at "w"
  walk_at "w"
  refine W2.rowsS t rfl ?_
  walk_at "w"
  apply W2.listF
  apply Kn.nx
  walk_at "env"
  have tail := put_tail (O := O) nf rl hr h6 t hm hw
  have fine : W3 (execs O putT [some (.adr s), some r, some w, some (.adr h.length)] (h ++ [.lst R])) fun f _ h1 => match f with
    | .rt d => W2 (fin false N0 (d, h1)) fun z h' => z = .non ∧ St n i (m + 1) s p (ins R j r) h'
    | .nx => W2 (fin false N0 (.non, h1)) fun z h' => z = .non ∧ St n i (m + 1) s p (ins R j r) h'
    | _ => False := tail.mono fun f _ h1 ⟨e, q⟩ => by subst e; exact W2.finF ⟨rfl, q⟩
  rcases hw with ⟨rfl, rfl⟩ | ⟨rfl, hj⟩
  · walk_at "w"
    walk_at "w"
    walk_at "w"
    apply W2.var rfl
    apply W2.cst
    apply W1.notN
    exact ⟨fun c => (by cases c), fun _ => W3.nil (Kn.nx fine)⟩
  · walk_at "w"
    walk_at "w"
    walk_at "w"
    apply W2.var rfl
    apply W2.cst
    apply W1.notN
    refine ⟨fun _ => ?_, fun c => (by cases c)⟩
    walk_at "w"
    walk_at "w"
    have t2 : St n i m s p R (h ++ [.lst R]) := t.push (plains_mono (plains_pr rl.pr) (by decide))
    refine W2.metS t2 rfl rfl ?_
    walk_at "w"
    apply W2.var rfl
    walk_at "w"
    walk_at "w"
    walk_at "w"
    walk_at "w"
    apply W2.var rfl
    walk_at "w"
    apply W2.lenA (get_last rfl)
    walk_at "w"
    walk_at "w"
    walk_at "w"
    refine (S2.li (O := O) _ _ _ _ (by omega) (by omega)).mono fun d h2 ⟨e1, e2⟩ => ?_
    subst e1 e2
    exact Kn.nx (W3.nil (Kn.nx fine))
theorem W1.idxT {xs : List D} {d : Int} {h : MH} {P : D → Prop} (h0 : 0 ≤ d) (h1 : d < xs.length) (q : ∀ x, xs[d.toNat]? = some x → P x) : W1 (idxD (.tup xs) (.int d) h) P := by
  have hl : d.toNat < xs.length := by omega
  have hx : ix xs.length d = some d.toNat := by
    unfold ix
    rw [if_pos h0, if_pos h1]
  refine .eq ?_ (q _ (List.getElem?_eq_getElem hl))
  show (match ix xs.length d with
    | some j => xs[j]?
    | none => none) = _
  rw [hx]
  exact List.getElem?_eq_getElem hl
theorem W2.popA {h : MH} {xs : List D} {j : Nat} {r : D} {Q : D → MH → Prop} (hj : xs[j]? = some r) (q : Q r (h ++ [.lst (xs.eraseIdx j)])) : W2 (bimD .pop (.adr h.length) [.int j] (h ++ [.lst xs])) Q := by
  have hl := (List.getElem?_eq_some_iff.mp hj).1
  refine .eq ?_ q
  show popM (h ++ [.lst xs]) (.adr h.length) [.int j] = _
  unfold popM
  dsimp only
  rw [get_last rfl]
  dsimp only
  have e : ix xs.length (j : Int) = some j := by
    unfold ix
    rw [if_pos (by omega), if_pos (by omega)]
    rfl
  rw [e]
  dsimp only
  rw [hj]
  dsimp only
  rw [set_last rfl]
theorem RL.erase {R : List D} {j : Nat} (rl : RL ss fs R) : RL ss fs (R.eraseIdx j) :=
  ⟨fun x hx => rl.pr x (List.mem_of_mem_eraseIdx hx), Nat.le_trans (List.length_eraseIdx_le ..) rl.l⟩
theorem rem_run [S1 O] [S2 O] {r : D} {j : Nat} (nf : NF ss fs) (rl : RL ss fs R) (t : St n i m s p R h) (hm : m < 1000) (hj : R[j]? = some r) :
    W2 ((runD O 4 b_Sheet_remove [.adr s, .int j] h).bind (fin false N0)) fun z h' => z = r ∧ St n i (m + 1) s p (R.eraseIdx j) h' := by
  have hl := rl.l
  have hlt := (List.getElem?_eq_some_iff.mp hj).1
  have t2 : St n i m s p R (h ++ [.lst R]) := t.push (plains_mono (plains_pr rl.pr) (by decide))
  apply W2.run
  walk_at "env"
  unfold b_Sheet_remove
  walk_at "w"
  walk_at "w"
  walk_at "w"
  walk_at "w"
  refine W2.rowsS t rfl ?_
  walk_at "w"
  apply W2.listF
  apply Kn.nx
  walk_at "env"
  walk_at "w"
  walk_at "w"
  refine W2.metS t2 rfl rfl ?_
  walk_at "w"
  apply W2.var rfl
  walk_at "w"
  walk_at "w"
  walk_at "w"
  apply W2.var rfl
  walk_at "w"
  apply W2.lenA (get_last rfl)
  walk_at "w"
  refine (S2.li (O := O) _ _ _ _ (by omega) (by omega)).mono fun d h2 ⟨e1, e2⟩ => ?_
  subst e1 e2
  apply Kn.nx
  walk_at "w"
  walk_at "w"
  apply W2.bim
  apply W2.var rfl
  refine ⟨by show (lstD _ _).isSome = true; rw [ixl (get_last rfl)]; rfl, ?_⟩
  walk_at "w"
  apply W2.var rfl
  walk_at "w"
  refine W2.popA hj ?_
  apply Kn.nx
  walk_at "env"
  walk_at "w"
  walk_at "w"
  have t3 : St n i m s p R (h ++ [.lst (R.eraseIdx j)]) := t.push (plains_mono (plains_pr (rl.erase (j := j)).pr) (by decide))
  refine W2.metS t3 rfl rfl ?_
  repeat walk_at "w"
  refine (S2.ed (O := O) n i m s p R (R.eraseIdx j) ss fs _ _ nf rl rl.erase t3 hm (ixs (get_last rfl))).mono fun d h2 ⟨e1, e2, e3⟩ => ?_
  subst e1
  repeat walk_at "w"
  exact ⟨rfl, e2⟩
end
end EV

set_option Elab.async false
set_option linter.all false
set_option maxRecDepth 100000
set_option maxHeartbeats 1000000
namespace EV
open PySem
local macro_rules | `(tactic| walk_at "w") => `(tactic| first | ((with_reducible apply W2.var); exact rfl) | with_reducible apply W2.cst | with_reducible apply W2.evnil | with_reducible apply W2.evcons | with_reducible apply W2.tup | with_reducible apply W2.lstT | with_reducible apply W2.lstF | with_reducible apply W2.bin | with_reducible apply W2.idx | with_reducible apply W2.cmpT | with_reducible apply W2.cmp | with_reducible apply W2.neg | with_reducible apply W2.ntT | with_reducible apply W2.nt | with_reducible apply W2.and1T | with_reducible apply W2.andT | with_reducible apply W2.or1T | with_reducible apply W2.orT | with_reducible apply W2.and1 | with_reducible apply W2.and | with_reducible apply W2.ife | with_reducible apply W2.pNone | with_reducible apply W2.pSome | with_reducible apply W2.slc | with_reducible apply W2.isi | ((with_reducible apply W2.callS); exact rfl) | ((with_reducible apply W2.cmtS); exact rfl) | ((with_reducible apply W2.mkC); exact rfl) | ((with_reducible apply W2.mk0C); exact rfl) | ((with_reducible apply W2.mkSC); exact rfl) | with_reducible apply W2.bif | with_reducible apply W2.bim | with_reducible apply W2.att | with_reducible apply W2.meth | with_reducible apply W2.kmt | with_reducible apply W2.prp | with_reducible apply W2.sob | with_reducible apply W2.lno | with_reducible apply W2.eqo | with_reducible apply W2.isc | with_reducible apply W2.frz | with_reducible apply W2.gcl | with_reducible apply W2.rng1 | with_reducible apply W2.enm | ((with_reducible apply okL_and); exact rfl) | ((with_reducible apply W2.tV); exact rfl) | ((with_reducible apply W2.wV); exact rfl) | with_reducible apply W1.truB | with_reducible apply W1.itL | with_reducible apply W1.itT | with_reducible apply W1.add | with_reducible apply W1.sub | with_reducible apply W1.lt | with_reducible apply W1.le | with_reducible apply W1.gt | with_reducible apply W1.ge | with_reducible apply W1.eqI | with_reducible apply W1.neI | with_reducible apply W1.eqS | with_reducible apply W1.neS | with_reducible apply W1.isN | with_reducible apply W1.notN | with_reducible apply W1.isB | with_reducible apply W2.finF | with_reducible apply W2.lenT | with_reducible apply W2.lenL | with_reducible apply W3.cons | with_reducible apply W3.nil | with_reducible apply W3.asg | with_reducible apply W3.asgT | with_reducible apply W3.par | with_reducible apply W3.ex | with_reducible apply W3.ret | with_reducible apply W3.pas | with_reducible apply W3.ite | with_reducible apply W3.fset | with_reducible apply W3.for | with_reducible apply W3.forE | with_reducible apply Kn.nx | with_reducible apply Kn.rt | with_reducible apply W3.turnN)
local macro_rules | `(tactic| walk_at "env") => `(tactic| simp only [List.map_cons, List.map_nil, List.length_cons, List.length_nil, Nat.zero_add, Nat.reduceAdd, Nat.reduceSub, List.reduceReplicate, List.cons_append, List.nil_append, List.set_cons_zero, List.set_cons_succ])
theorem cut_take {α : Type} (xs : List α) (b : Nat) : cut xs none (some (b : Int)) = xs.take b := by
  have e1 : sx xs.length xs.length (some (b : Int)) = min b xs.length := by
    show (if (b : Int) < 0 then ((b : Int) + xs.length).toNat else min (b : Int).toNat xs.length) = _
    rw [if_neg (by omega)]
    rfl
  unfold cut
  rw [e1, show sx xs.length 0 none = 0 from rfl, List.drop_zero, Nat.sub_zero, List.take_eq_take_iff]
  omega
theorem cut_drop {α : Type} (xs : List α) (b : Nat) : cut xs (some (b : Int)) none = xs.drop b := by
  have e1 : sx xs.length 0 (some (b : Int)) = min b xs.length := by
    show (if (b : Int) < 0 then ((b : Int) + xs.length).toNat else min (b : Int).toNat xs.length) = _
    rw [if_neg (by omega)]
    rfl
  unfold cut
  rw [e1, show sx xs.length xs.length none = xs.length from rfl, List.take_of_length_le (by rw [List.length_drop]; omega)]
  by_cases h : b ≤ xs.length
  · rw [Nat.min_eq_left h]
  · rw [Nat.min_eq_right (by omega), List.drop_of_length_le (Nat.le_refl _), List.drop_of_length_le (by omega)]
theorem W1.addL {a b : List D} {h : MH} {P : D → Prop} (hl : a.length + b.length ≤ 1000) (q : P (.lst (a ++ b))) : W1 (binD .Add (.lst a) (.lst b) h) P := by
  refine .eq ?_ q
  show (if okL (a.length + b.length) then some (D.lst (a ++ b)) else none) = _
  rw [if_pos (show okL (a.length + b.length) = true from decide_eq_true (by omega))]
theorem W1.slA {h : MH} {j : Nat} {xs : List D} {lo hi : Option Int} {P : D → Prop} (e : h[j]? = some (.lst xs)) (q : P (.lst (cut xs lo hi))) : W1 (slcD (.adr j) lo hi h) P := by
  refine .eq ?_ q
  show (match lstD h (.adr j) with
    | some xs => some (D.lst (cut xs lo hi))
    | none => none) = _
  rw [ixl e]
theorem W1.slL {h : MH} {xs : List D} {lo hi : Option Int} {P : D → Prop} (q : P (.lst (cut xs lo hi))) : W1 (slcD (.lst xs) lo hi h) P := .eq rfl q
section
variable {O : Orc} [Sy O] {N0 n i m s p : Nat} {h : MH} {R : List D} {ss fs : List S}
theorem W2.lnoS [S1 O] {σ : En} {Q : D → MH → Prop} (t : St n i m s p R h) (hl : R.length ≤ 6) (h0 : σ[0]? = some (some (.adr s))) (q : Q (.int R.length) h) : W2 ((sem O (.lno (.var 0) 26)).v σ h) Q := by
  apply W2.lno
  refine W2.var h0 ⟨1, _, t.ins, by rw [Sy.okX]; rfl, ?_⟩
  exact (S1.len (O := O) n i m s p R h t hl).mono fun d h1 ⟨e1, e2⟩ => by subst e1 e2; exact ⟨_, rfl, by omega, by omega, q⟩
theorem mvd_run [S1 O] {r : D} {a b : Nat} (rl : RL ss fs R) (t : St n i m s p R h) (ha : R[a]? = some r) (hb : b < R.length) :
    W2 ((runD O 5 b_Sheet_moved [.adr s, .int a, .int b] h).bind (fin false N0)) fun z h' => z = .lst (ins (R.eraseIdx a) b r) ∧ St n i m s p R h' := by
  have hl := rl.l
  have hle := (rl.erase (j := a)).l
  have t3 : St n i m s p R (h ++ [.lst (R.eraseIdx a)]) := t.push (plains_mono (plains_pr (rl.erase (j := a)).pr) (by decide))
  apply W2.run
  walk_at "env"
  unfold b_Sheet_moved
  walk_at "w"
  walk_at "w"
  walk_at "w"
  walk_at "w"
  refine W2.rowsS t rfl ?_
  walk_at "w"
  apply W2.listF
  apply Kn.nx
  walk_at "env"
  walk_at "w"
  walk_at "w"
  apply W2.bim
  apply W2.var rfl
  refine ⟨by show (lstD _ _).isSome = true; rw [ixl (get_last rfl)]; rfl, ?_⟩
  walk_at "w"
  apply W2.var rfl
  walk_at "w"
  refine W2.popA ha ?_
  apply Kn.nx
  walk_at "env"
  walk_at "w"
  walk_at "w"
  walk_at "w"
  walk_at "w"
  walk_at "w"
  apply W2.var rfl
  walk_at "w"
  walk_at "w"
  refine W2.var rfl ⟨_, rfl, ?_⟩
  apply W1.slA (get_last rfl)
  walk_at "w"
  walk_at "w"
  apply W2.var rfl
  walk_at "w"
  refine ⟨rfl, ?_⟩
  have e1 : (cut (R.eraseIdx a) none (some (b : Int))).length ≤ 6 := by rw [cut_take, List.length_take]; omega
  have e2 : (cut (R.eraseIdx a) (some (b : Int)) none).length ≤ 6 := by rw [cut_drop, List.length_drop]; omega
  refine W1.addL (by simp only [List.length_cons, List.length_nil]; omega) ?_
  walk_at "w"
  apply W2.var rfl
  walk_at "w"
  refine W2.var rfl ⟨_, rfl, ?_⟩
  walk_at "w"
  apply W1.slA (get_last rfl)
  refine W1.addL (by simp only [List.length_append, List.length_cons, List.length_nil]; omega) ?_
  refine Kn.rt (W2.finF ⟨?_, t3⟩)
  rw [cut_take, cut_drop]
  show D.lst _ = D.lst (_ ++ r :: _)
  rw [List.append_assoc]
  rfl
theorem RL.mv {r : D} {a b : Nat} (rl : RL ss fs R) (ha : R[a]? = some r) : RL ss fs (EV.ins (R.eraseIdx a) b r) := by
  have hlt := (List.getElem?_eq_some_iff.mp ha).1
  have hl := rl.l
  refine (rl.erase (j := a)).ins (rl.pr r (List.mem_of_getElem? ha)) ?_
  rw [List.length_eraseIdx]
  split <;> omega
class S3 (O : Orc) : Prop where
  mvd : ∀ (n i m s p : Nat) (R : List D) (ss fs : List S) (r : D) (a b : Nat) (h : MH), RL ss fs R → St n i m s p R h → R[a]? = some r → b < R.length → W2 (O.call 32 [.adr s, .int a, .int b] h) fun z h' => z = .lst (ins (R.eraseIdx a) b r) ∧ St n i m s p R h'
theorem mvd_eq (k : Nat) (x y z : D) (h : MH) : cl (k + 1) 32 [x, y, z] h = (runD (orc SY k) 5 b_Sheet_moved [x, y, z] h).bind (fin false h.length) := rfl
instance (k : Nat) : S3 (orc SY (k + 9)) := ⟨fun n i m s p R ss fs r a b h rl t ha hb => mvd_run (O := orc SY (k + 8)) (N0 := h.length) rl t ha hb⟩
theorem mov_run [S1 O] [S2 O] [S3 O] {r : D} {a b : Nat} (nf : NF ss fs) (rl : RL ss fs R) (t : St n i m s p R h) (hm : m < 1000) (ha : R[a]? = some r) (hb : b < R.length) :
    W2 ((runD O 3 b_Sheet_move [.adr s, .int a, .int b] h).bind (fin false N0)) fun z h' => z = .non ∧ St n i (m + 1) s p (ins (R.eraseIdx a) b r) h' := by
  have hlt := (List.getElem?_eq_some_iff.mp ha).1
  apply W2.run
  walk_at "env"
  unfold b_Sheet_move
  walk_at "w"
  walk_at "w"
  refine W2.metS t rfl rfl ?_
  walk_at "w"
  apply W2.var rfl
  walk_at "w"
  refine W2.lnoS t rl.l rfl ?_
  walk_at "w"
  refine (S2.li (O := O) _ _ _ _ (by omega) (by omega)).mono fun d h2 ⟨e1, e2⟩ => ?_
  subst e1 e2
  apply Kn.nx
  walk_at "w"
  walk_at "w"
  refine W2.metS t rfl rfl ?_
  walk_at "w"
  apply W2.var rfl
  walk_at "w"
  refine W2.lnoS t rl.l rfl ?_
  walk_at "w"
  refine (S2.li (O := O) _ _ _ _ (by omega) (by omega)).mono fun d h2 ⟨e1, e2⟩ => ?_
  subst e1 e2
  apply Kn.nx
  walk_at "w"
  walk_at "w"
  refine W2.metS t rfl rfl ?_
  walk_at "w"
  refine W2.metS t rfl rfl ?_
  walk_at "w"
  apply W2.var rfl
  walk_at "w"
  apply W2.var rfl
  walk_at "w"
  refine (S3.mvd (O := O) n i m s p R ss fs r a b _ rl t ha hb).mono fun d h3 ⟨e1, t2⟩ => ?_
  subst e1
  walk_at "w"
  refine (S2.ed (O := O) n i m s p R _ ss fs _ _ nf rl (rl.mv ha) t2 hm rfl).mono fun d h4 ⟨e1, e2, e3⟩ => ?_
  subst e1
  repeat walk_at "w"
  exact ⟨rfl, e2⟩
theorem asn_run [S2 O] {R' : List D} {d : D} (nf : NF ss fs) (rl : RL ss fs R) (rl2 : RL ss fs R') (t : St n i m s p R h) (hm : m < 1000) (hd : seqD h d = some R') (hty : isTs h d [.list, .tuple] = some true) :
    W2 ((runD O 2 b_Sheet_assign [.adr s, d] h).bind (fin false N0)) fun z h' => z = .non ∧ St n i (m + 1) s p R' h' ∧ h'.length = h.length ∧ ∀ j, j ≠ s → j ≠ p → h'[j]? = h[j]? := by
  apply W2.run
  walk_at "env"
  unfold b_Sheet_assign
  walk_at "w"
  walk_at "w"
  walk_at "w"
  walk_at "w"
  walk_at "w"
  apply W2.var rfl
  refine W1.eq hty ?_
  walk_at "w"
  refine ⟨fun c => (by cases c), fun _ => W3.nil (Kn.nx ?_)⟩
  walk_at "w"
  walk_at "w"
  refine W2.metS t rfl rfl ?_
  repeat walk_at "w"
  refine (S2.ed (O := O) n i m s p R R' ss fs _ _ nf rl rl2 t hm hd).mono fun d h4 ⟨e1, e2⟩ => ?_
  subst e1
  repeat walk_at "w"
  exact ⟨rfl, e2⟩
theorem sin_args (x : D) (R : List D) (hl : R.length ≤ 1000) : argsD d_Sheet___init__ (x :: R) = some [x, .tup R] := by
  unfold argsD
  rw [show d_Sheet___init__.va = true from rfl, if_pos rfl, show d_Sheet___init__.np = 2 from rfl, if_pos]
  · rfl
  · rw [Bool.and_eq_true]
    exact ⟨decide_eq_true (by simp only [List.length_cons]; omega), decide_eq_true (by simp only [List.length_cons]; omega)⟩
theorem sin_eq (k : Nat) (x : D) (R : List D) (h : MH) (hl : R.length ≤ 1000) : cl (k + 1) 22 (x :: R) h = (runD (orc SY k) 2 b_Sheet___init__ [x, .tup R] h).bind (fin false h.length) := by
  show (match argsD d_Sheet___init__ (x :: R) with
    | some xs => (runD (orc SY k) d_Sheet___init__.N.length d_Sheet___init__.body xs h).bind (fin d_Sheet___init__.sh h.length)
    | none => none) = _
  rw [sin_args x R hl]
  rfl
theorem sin_run [Pm O] (nf : NF ss fs) (rl : RL ss fs R) (hG : HG h) : W2 ((runD O 2 b_Sheet___init__ [.adr h.length, .tup R] (h ++ [.ins 1 []])).bind (fin false N0)) fun d h' => d = .non ∧ h' = h ++ [.ins 1 [(1, pgm R), (2, .adr (h.length + 1))]] ++ [.lst []] := by
  have g1 : HG (h ++ [.ins 1 []]) := hG.push fun N H _ => rfl
  apply W2.run
  walk_at "env"
  unfold b_Sheet___init__
  walk_at "w"
  walk_at "w"
  refine W2.prog nf rl g1 rfl rfl rfl ?_
  apply W2.var rfl
  refine ⟨h.length, 1, [], rfl, get_last rfl, (by decide), by rw [Sy.okF]; rfl, ?_⟩
  rw [set_last rfl]
  apply Kn.nx
  walk_at "w"
  apply W3.fset
  walk_at "w"
  walk_at "w"
  refine ⟨rfl, ?_⟩
  apply W2.var rfl
  refine ⟨h.length, 1, [(1, pgm R)], rfl, get_app (get_last rfl), (by simp), by rw [Sy.okF]; rfl, ?_⟩
  rw [List.set_append_left _ _ (by simp), set_last rfl, List.length_append, List.length_singleton]
  exact Kn.nx (W3.nil (W2.finF ⟨rfl, rfl⟩))
end
class S4 (O : Orc) : Prop where
  put : ∀ (n i m s p : Nat) (R : List D) (ss fs : List S) (r : D) (h : MH), NF ss fs → RL ss fs R → PR ss fs r → R.length < 6 → St n i m s p R h → m < 1000 → W2 (O.call 30 [.adr s, r] h) fun z h' => z = .non ∧ St n i (m + 1) s p (ins R R.length r) h'
  putK : ∀ (n i m s p : Nat) (R : List D) (ss fs : List S) (r : D) (j : Nat) (h : MH), NF ss fs → RL ss fs R → PR ss fs r → R.length < 6 → St n i m s p R h → m < 1000 → j ≤ R.length → W2 (O.callK 30 [.adr s, r, .int j] h) fun z h' => z = .non ∧ St n i (m + 1) s p (ins R j r) h'
  rem : ∀ (n i m s p : Nat) (R : List D) (ss fs : List S) (r : D) (j : Nat) (h : MH), NF ss fs → RL ss fs R → St n i m s p R h → m < 1000 → R[j]? = some r → W2 (O.call 31 [.adr s, .int j] h) fun z h' => z = r ∧ St n i (m + 1) s p (R.eraseIdx j) h'
  mov : ∀ (n i m s p : Nat) (R : List D) (ss fs : List S) (r : D) (a b : Nat) (h : MH), NF ss fs → RL ss fs R → St n i m s p R h → m < 1000 → R[a]? = some r → b < R.length → W2 (O.call 33 [.adr s, .int a, .int b] h) fun z h' => z = .non ∧ St n i (m + 1) s p (ins (R.eraseIdx a) b r) h'
  asn : ∀ (n i m s p : Nat) (R R' : List D) (ss fs : List S) (d : D) (h : MH), NF ss fs → RL ss fs R → RL ss fs R' → St n i m s p R h → m < 1000 → seqD h d = some R' → isTs h d [.list, .tuple] = some true → W2 (O.call 25 [.adr s, d] h) fun z h' => z = .non ∧ St n i (m + 1) s p R' h' ∧ h'.length = h.length ∧ ∀ j, j ≠ s → j ≠ p → h'[j]? = h[j]?
  mks : ∀ (R : List D) (ss fs : List S) (h : MH), NF ss fs → RL ss fs R → HG h → W2 (mkR 1 (O.call 22) R h) fun z h' => z = .adr h.length ∧ h' = h ++ [.ins 1 [(1, pgm R), (2, .adr (h.length + 1))]] ++ [.lst []]
theorem put_eq (k : Nat) (x y : D) (h : MH) : cl (k + 1) 30 [x, y] h = (runD (orc SY k) 4 b_Sheet_put [x, y, .non] h).bind (fin false h.length) := rfl
theorem putK_eq (k : Nat) (x y z : D) (h : MH) : (orc SY (k + 1)).callK 30 [x, y, z] h = (runD (orc SY k) 4 b_Sheet_put [x, y, z] h).bind (fin false h.length) := rfl
instance (k : Nat) : S4 (orc SY (k + 10)) := ⟨
  fun n i m s p R ss fs r h nf rl hr h6 t hm => put_run (O := orc SY (k + 9)) (N0 := h.length) nf rl hr h6 t hm (.inl ⟨rfl, rfl⟩),
  fun n i m s p R ss fs r j h nf rl hr h6 t hm hj => put_run (O := orc SY (k + 9)) (N0 := h.length) nf rl hr h6 t hm (.inr ⟨rfl, hj⟩),
  fun n i m s p R ss fs r j h nf rl t hm hj => rem_run (O := orc SY (k + 9)) (N0 := h.length) nf rl t hm hj,
  fun n i m s p R ss fs r a b h nf rl t hm ha hb => mov_run (O := orc SY (k + 9)) (N0 := h.length) nf rl t hm ha hb,
  fun n i m s p R R' ss fs d h nf rl rl2 t hm hd hty => asn_run (O := orc SY (k + 9)) (N0 := h.length) nf rl rl2 t hm hd hty,
  fun R ss fs h nf rl hG => by
    apply W2.mkR
    rw [show (orc SY (k + 10)).call 22 = cl (k + 9 + 1) 22 from rfl, sin_eq (k + 9) (.adr h.length) R (h ++ [MO.ins 1 []]) (Nat.le_trans rl.l (by decide))]
    exact (sin_run (O := orc SY (k + 9)) nf rl hG).mono fun d h1 ⟨e1, e2⟩ => ⟨e1, rfl, e2⟩⟩
end EV

set_option Elab.async false
set_option linter.all false
set_option maxRecDepth 100000
set_option maxHeartbeats 1000000
namespace EV
open PySem
local macro_rules | `(tactic| walk_at "w") => `(tactic| first | ((with_reducible apply W2.var); exact rfl) | with_reducible apply W2.cst | with_reducible apply W2.evnil | with_reducible apply W2.evcons | with_reducible apply W2.tup | with_reducible apply W2.lstT | with_reducible apply W2.lstF | with_reducible apply W2.bin | with_reducible apply W2.idx | with_reducible apply W2.cmpT | with_reducible apply W2.cmp | with_reducible apply W2.neg | with_reducible apply W2.ntT | with_reducible apply W2.nt | with_reducible apply W2.and1T | with_reducible apply W2.andT | with_reducible apply W2.or1T | with_reducible apply W2.orT | with_reducible apply W2.and1 | with_reducible apply W2.and | with_reducible apply W2.ife | with_reducible apply W2.pNone | with_reducible apply W2.pSome | with_reducible apply W2.slc | with_reducible apply W2.isi | ((with_reducible apply W2.callS); exact rfl) | ((with_reducible apply W2.cmtS); exact rfl) | ((with_reducible apply W2.mkC); exact rfl) | ((with_reducible apply W2.mk0C); exact rfl) | ((with_reducible apply W2.mkSC); exact rfl) | with_reducible apply W2.bif | with_reducible apply W2.bim | with_reducible apply W2.att | with_reducible apply W2.meth | with_reducible apply W2.kmt | with_reducible apply W2.prp | with_reducible apply W2.sob | with_reducible apply W2.lno | with_reducible apply W2.eqo | with_reducible apply W2.isc | with_reducible apply W2.frz | with_reducible apply W2.gcl | with_reducible apply W2.rng1 | with_reducible apply W2.enm | ((with_reducible apply okL_and); exact rfl) | ((with_reducible apply W2.tV); exact rfl) | ((with_reducible apply W2.wV); exact rfl) | with_reducible apply W1.truB | with_reducible apply W1.itL | with_reducible apply W1.itT | with_reducible apply W1.add | with_reducible apply W1.sub | with_reducible apply W1.lt | with_reducible apply W1.le | with_reducible apply W1.gt | with_reducible apply W1.ge | with_reducible apply W1.eqI | with_reducible apply W1.neI | with_reducible apply W1.eqS | with_reducible apply W1.neS | with_reducible apply W1.isN | with_reducible apply W1.notN | with_reducible apply W1.isB | with_reducible apply W2.finF | with_reducible apply W2.lenT | with_reducible apply W2.lenL | with_reducible apply W3.cons | with_reducible apply W3.nil | with_reducible apply W3.asg | with_reducible apply W3.asgT | with_reducible apply W3.par | with_reducible apply W3.ex | with_reducible apply W3.ret | with_reducible apply W3.pas | with_reducible apply W3.ite | with_reducible apply W3.fset | with_reducible apply W3.for | with_reducible apply W3.forE | with_reducible apply Kn.nx | with_reducible apply Kn.rt | with_reducible apply W3.turnN)
local macro_rules | `(tactic| walk_at "env") => `(tactic| simp only [List.map_cons, List.map_nil, List.length_cons, List.length_nil, Nat.zero_add, Nat.reduceAdd, Nat.reduceSub, List.reduceReplicate, List.cons_append, List.nil_append, List.set_cons_zero, List.set_cons_succ])
/-! ### the law's own: rows, edits -/
theorem rows_eq (k : Nat) (x y z u v : D) (h : MH) : cl (k + 1) 8 [x, y, z, u, v] h = (runD (orc SY k) 10 b__law_rows [x, y, z, u, v] h).bind (fin true h.length) := rfl
theorem fin_new {h h' : MH} {xs : List D} (hl : h'.length = h.length) (hg : HG h') (hp : plains 10 xs = true) : fin true h.length (.adr h.length, h' ++ [.lst xs]) = some (.lst xs, h') := by
  unfold fin
  rw [if_pos rfl]
  dsimp only
  have e1 : fz h.length (h' ++ [.lst xs]) 12 (.adr h.length) = some (.lst xs) := by
    unfold fz
    rw [if_neg (Nat.lt_irrefl _), get_last hl.symm]
    dsimp only
    rw [fzs_plain hp (by decide)]
    rfl
  have e2 : (h' ++ [MO.lst xs]).take h.length = h' := by rw [← hl]; simp
  rw [e1, e2, hg.each (by omega)]
theorem W2.appA {h : MH} {xs : List D} {v : D} {j : Nat} {Q : D → MH → Prop} (hj : j = h.length) (hl : xs.length < 1000) (q : Q .non (h ++ [.lst (xs ++ [v])])) : W2 (bimD .append (.adr j) [v] (h ++ [.lst xs])) Q := by
  refine .eq ?_ q
  show appendM (h ++ [.lst xs]) (.adr j) [v] = _
  unfold appendM
  dsimp only
  rw [get_last hj]
  dsimp only
  rw [if_pos (show okL (xs.length + 1) = true from decide_eq_true (by omega)), set_last hj]
theorem lrows_run {O : Orc} [Sy O] [Pl O] {n i : Nat} {h : MH} {ss fs : List S} (a : AtH n i h) (hG : HG h) (hn : n + 100 ≤ 2 ^ 60) (hs : NS ss) (hf : NS fs) : W2 ((runD O 10 b__law_rows [.adr i, .lst (ss.map .str), .lst (fs.map .str), .int 3, .int 0] h).bind (fin true h.length)) fun d h' => ∃ R, d = .lst R ∧ R.length = 3 ∧ (∀ r ∈ R, PR ss fs r) ∧ Adv (n + 12) i h h' := by
  apply W2.run
  walk_at "env"
  unfold b__law_rows
  walk_at "w"
  walk_at "w"
  walk_at "w"
  walk_at "w"
  refine ⟨rfl, ?_⟩
  apply Kn.nx
  walk_at "env"
  walk_at "w"
  apply W3.for
  apply W2.rng1
  refine W2.var rfl ⟨3, rfl, by decide, by decide, ?_⟩
  refine W3.loop (fun j σ h1 => ∃ h' rs x6 x7 x8 x9, h1 = h' ++ [.lst rs] ∧ Adv (n + 4 * j) i h h' ∧ rs.length = j ∧ (∀ r ∈ rs, PR ss fs r) ∧ σ = [some (.adr i), some (.lst (ss.map .str)), some (.lst (fs.map .str)), some (.int 3), some (.int 0), some (.adr h.length), x6, x7, x8, x9]) ⟨h, [], _, _, _, _, rfl, a.refl, rfl, (fun r hr => by cases hr), rfl⟩ (fun j x σ h1 hx ⟨h', rs, x6, x7, x8, x9, e1, A, hl, hr, es⟩ => ?_) fun σ1 h1 ⟨h', rs, x6, x7, x8, x9, e1, A, hl, hr, es⟩ => ?_
  · subst e1 es
    have hj : j < 3 := by
      have := (List.getElem?_eq_some_iff.mp hx).1
      simpa using this
    apply W3.turnN
    walk_at "env"
    walk_at "w"
    walk_at "w"
    walk_at "w"
    repeat walk_at "w"
    refine (Pl.plain (O := O) _ i (h' ++ [.lst rs]) ss fs (A.at.app _) (by omega) hs hf).mono fun r h2 ⟨p, A2⟩ => ?_
    obtain ⟨h3, rfl, B⟩ := A2.app A.at.lt
    apply Kn.nx
    walk_at "env"
    walk_at "w"
    apply W3.ite
    apply W2.andT
    walk_at "w"
    apply W2.var rfl
    apply W2.cst
    apply W1.gt
    refine ⟨fun c => absurd (of_decide_eq_true c) (by omega), fun _ => ⟨fun c => (by cases c), fun _ => W3.nil (Kn.nx ?_)⟩⟩
    walk_at "w"
    walk_at "w"
    apply W2.bim
    apply W2.var rfl
    have hl3 : h3.length = h.length := by rw [B.len, A.len]
    refine ⟨by show (lstD _ _).isSome = true; rw [ixl (get_last hl3.symm)]; rfl, ?_⟩
    walk_at "w"
    apply W2.var rfl
    walk_at "w"
    refine W2.appA hl3.symm (by omega) ?_
    refine Kn.nx (W3.nil ⟨h3, rs ++ [r], _, _, _, _, rfl, (A.trans B).mono (by omega), by simp [hl], fun x hx => ?_, rfl⟩)
    rcases List.mem_append.mp hx with hx | hx
    · exact hr x hx
    · have : x = r := by simpa using hx
      rw [this]; exact p
  · subst e1 es
    have hl3 : rs.length = 3 := by simpa using hl
    apply Kn.nx
    walk_at "w"
    walk_at "w"
    apply W2.var rfl
    apply Kn.rt
    refine .eq (fin_new A.len (hG.adv A) (plains_mono (plains_pr hr) (by decide))) ⟨rs, rfl, hl3, hr, ?_⟩
    simpa using A
/-- an edit: what it is, the rows after it, what is told -/
inductive Ed (ss fs : List S) (R : List D) : D → List D → D → Prop
  | put {r w : D} {j : Nat} : PR ss fs r → (w = .non ∧ j = R.length ∨ w = .int j ∧ j ≤ R.length) → Ed ss fs R (.tup [.str [112, 117, 116], r, w, .lst (ins R j r)]) (ins R j r) .non
  | rem {r : D} {a : Nat} : R[a]? = some r → Ed ss fs R (.tup [.str [114, 101, 109, 111, 118, 101], .int a, .non, .lst (R.eraseIdx a)]) (R.eraseIdx a) r
  | mov {r : D} {a b : Nat} : R[a]? = some r → b < R.length → Ed ss fs R (.tup [.str [109, 111, 118, 101], .int a, .int b, .lst (ins (R.eraseIdx a) b r)]) (ins (R.eraseIdx a) b r) .non
  | set {R' : List D} : (∀ r ∈ R', PR ss fs r) → R'.length ≤ 6 → Ed ss fs R (.tup [.str [115, 101, 116], .non, .non, .lst R']) R' .non
theorem edit_eq (k : Nat) (x y z u : D) (h : MH) : cl (k + 1) 13 [x, y, z, u] h = (runD (orc SY k) 12 b__law_edit [x, y, z, u] h).bind (fin false h.length) := rfl
theorem ins_eq (R : List D) (j : Nat) (r : D) : cut R none (some (j : Int)) ++ [r] ++ cut R (some (j : Int)) none = ins R j r := by
  rw [cut_take, cut_drop, List.append_assoc]
  rfl
theorem era_eq (R : List D) (a : Nat) : cut R none (some (a : Int)) ++ cut R (some ((a : Int) + 1)) none = R.eraseIdx a := by
  rw [cut_take, show ((a : Int) + 1) = ((a + 1 : Nat) : Int) from rfl, cut_drop, List.eraseIdx_eq_take_drop_succ]
theorem cut_len {α : Type} (xs : List α) (lo hi : Option Int) : (cut xs lo hi).length ≤ xs.length := by
  unfold cut
  rw [List.length_take, List.length_drop]
  omega
theorem edit_run {O : Orc} [Sy O] [Dr O] [Pl O] {N0 n i : Nat} {h : MH} {ss fs : List S} {R : List D} (a : AtH n i h) (hn : n + 100 ≤ 2 ^ 60) (nf : NF ss fs) (rl : RL ss fs R) : W2 ((runD O 12 b__law_edit [.adr i, .lst R, .lst (ss.map .str), .lst (fs.map .str)] h).bind (fin false N0)) fun d h' => ∃ R' z, Ed ss fs R d R' z ∧ R'.length ≤ 7 ∧ Adv (n + 10) i h h' := by
  have hl := rl.l
  have hpl : plain 60 (.lst R) = true := plains_mono (plains_pr rl.pr) (by decide)
  apply W2.run
  walk_at "env"
  unfold b__law_edit
  repeat walk_at "w"
  refine (Dr.draw (O := O) n i h 5 a (by omega) (by decide) (by decide)).mono fun d h1 ⟨way, e, w0, w1, A1⟩ => ?_
  subst e
  walk_at "w"
  walk_at "w"
  walk_at "w"
  apply W2.var rfl
  walk_at "w"
  walk_at "w"
  walk_at "w"
  refine ⟨_, rfl, ?_⟩
  apply Kn.nx
  walk_at "env"
  repeat walk_at "w"
  refine (Pl.plain (O := O) _ i h1 ss fs A1.at (by omega) nf.s nf.f).mono fun r h2 ⟨p, A2⟩ => ?_
  apply Kn.nx
  walk_at "env"
  walk_at "w"
  apply W3.ite
  have put_case : W3 (execs O [.asg (.nm 8) (.idx (.lst true [(.cst .non), (.call 5 [(.var 0), (.bin .Add (.var 7) (.cst (.int 1)))])]) (.call 5 [(.var 0), (.cst (.int 2))])), .asg (.nm 9) (.ife (.cmp .Is (.var 8) (.cst .non)) (.var 7) (.var 8)), .ret (.tup [(.cst (.str [112, 117, 116])), (.var 4), (.var 8), (.bin .Add (.bin .Add (.slc (.var 1) none (some (.var 9))) (.lst true [(.var 4)])) (.slc (.var 1) (some (.var 9)) none))])] [some (.adr i), some (.lst R), some (.lst (ss.map .str)), some (.lst (fs.map .str)), some r, none, some (.int way), some (.int R.length), none, none, none, none] h2) fun f _ h' => ∃ d R' z, f = .rt d ∧ Ed ss fs R d R' z ∧ R'.length ≤ 7 ∧ Adv (n + 10) i h h' := by
    walk_at "w"
    walk_at "w"
    walk_at "w"
    walk_at "w"
    walk_at "w"
    walk_at "w"
    walk_at "w"
    walk_at "w"
    walk_at "w"
    apply W2.var rfl
    walk_at "w"
    walk_at "w"
    apply W2.var rfl
    walk_at "w"
    walk_at "w"
    walk_at "w"
    refine (Dr.draw (O := O) _ i h2 _ A2.at (by omega) (by omega) (by omega)).mono fun d h3 ⟨q, e, q0, q1, A3⟩ => ?_
    subst e
    walk_at "w"
    refine ⟨rfl, ?_⟩
    walk_at "w"
    walk_at "w"
    apply W2.var rfl
    repeat walk_at "w"
    refine (Dr.draw (O := O) _ i h3 2 A3.at (by omega) (by decide) (by decide)).mono fun d h4 ⟨c, e, c0, c1, A4⟩ => ?_
    subst e
    have A : Adv (n + 10) i h h4 := (A1.trans (A2.trans (A3.trans A4))).mono (by omega)
    obtain ⟨j, rfl⟩ := Int.eq_ofNat_of_zero_le q0
    have key : ∀ w : D, (∃ j' : Nat, (w = .non ∧ j' = R.length ∨ w = .int j' ∧ j' ≤ R.length)) → Kn O [.asg (.nm 9) (.ife (.cmp .Is (.var 8) (.cst .non)) (.var 7) (.var 8)), .ret (.tup [(.cst (.str [112, 117, 116])), (.var 4), (.var 8), (.bin .Add (.bin .Add (.slc (.var 1) none (some (.var 9))) (.lst true [(.var 4)])) (.slc (.var 1) (some (.var 9)) none))])] (fun f _ h' => ∃ d R' z, f = .rt d ∧ Ed ss fs R d R' z ∧ R'.length ≤ 7 ∧ Adv (n + 10) i h h') .nx [some (.adr i), some (.lst R), some (.lst (ss.map .str)), some (.lst (fs.map .str)), some r, none, some (.int way), some (.int R.length), some w, none, none, none] h4 := fun w ⟨j', hw⟩ => by
      have hj' : j' ≤ R.length := by rcases hw with ⟨_, e⟩ | ⟨_, e⟩ <;> omega
      apply Kn.nx
      walk_at "w"
      walk_at "w"
      refine W2.eq (x := .int j') (h := h4) ?_ ?_
      · rcases hw with ⟨rfl, rfl⟩ | ⟨rfl, _⟩
        · simp [ifV, two, cmpB, cmpD, isD, isNonD, truS, truD]
        · simp [ifV, two, cmpB, cmpD, isD, isNonD, truS, truD]
      apply Kn.nx
      walk_at "env"
      walk_at "w"
      walk_at "w"
      walk_at "w"
      walk_at "w"
      walk_at "w"
      walk_at "w"
      apply W2.var rfl
      walk_at "w"
      apply W2.var rfl
      walk_at "w"
      walk_at "w"
      walk_at "w"
      walk_at "w"
      apply W2.var rfl
      walk_at "w"
      walk_at "w"
      refine W2.var rfl ⟨_, rfl, ?_⟩
      apply W1.slL
      walk_at "w"
      walk_at "w"
      apply W2.var rfl
      walk_at "w"
      refine ⟨rfl, ?_⟩
      have e1 := cut_len R none (some (j' : Int))
      have e2 := cut_len R (some (j' : Int)) none
      refine W1.addL (by simp only [List.length_cons, List.length_nil]; omega) ?_
      walk_at "w"
      apply W2.var rfl
      walk_at "w"
      refine W2.var rfl ⟨_, rfl, ?_⟩
      walk_at "w"
      apply W1.slL
      refine W1.addL (by simp only [List.length_append, List.length_cons, List.length_nil]; omega) ?_
      walk_at "w"
      refine ⟨rfl, Kn.rt ⟨_, ins R j' r, .non, rfl, ?_, ?_, A⟩⟩
      · rw [ins_eq]
        exact .put p hw
      · unfold ins
        rw [List.length_append, List.length_cons, List.length_take, List.length_drop]
        omega
    have hc : c = 0 ∨ c = 1 := by omega
    rcases hc with rfl | rfl
    · exact .eq rfl (key .non ⟨_, .inl ⟨rfl, rfl⟩⟩)
    · exact .eq rfl (key (.int j) ⟨j, .inr ⟨rfl, by omega⟩⟩)
  apply W2.orT
  walk_at "w"
  apply W2.var rfl
  walk_at "w"
  walk_at "w"
  refine ⟨fun _ => ?_, fun _ => ⟨fun _ => put_case.mono fun f σ h1 ⟨d, R', z, e1, e2, e3, e4⟩ => (by subst e1; exact Kn.rt (W2.finF ⟨R', z, e2, e3, e4⟩)), fun c => (by cases c)⟩⟩
  apply W2.or1T
  walk_at "w"
  apply W2.var rfl
  repeat walk_at "w"
  refine W1.eqP hpl rfl ⟨fun _ => put_case.mono fun f σ h1 ⟨d, R', z, e1, e2, e3, e4⟩ => (by subst e1; exact Kn.rt (W2.finF ⟨R', z, e2, e3, e4⟩)), fun c => ?_⟩
  have hne : 0 < R.length := by
    cases R with
    | nil => cases c
    | cons _ _ => simp
  apply W3.nil
  apply Kn.nx
  repeat walk_at "w"
  refine (Dr.draw (O := O) _ i h2 _ A2.at (by omega) (by omega) (by omega)).mono fun d h3 ⟨one, e, o0, o1, A3⟩ => ?_
  subst e
  repeat walk_at "w"
  refine (Dr.draw (O := O) _ i h3 _ A3.at (by omega) (by omega) (by omega)).mono fun d h4 ⟨two, e, t0, t1, A4⟩ => ?_
  subst e
  have A : Adv (n + 10) i h h4 := (A1.trans (A2.trans (A3.trans A4))).mono (by omega)
  obtain ⟨a1, rfl⟩ := Int.eq_ofNat_of_zero_le o0
  obtain ⟨b1, rfl⟩ := Int.eq_ofNat_of_zero_le t0
  have ha1 : a1 < R.length := by omega
  have hb1 : b1 < R.length := by omega
  have hra := List.getElem?_eq_getElem ha1
  generalize R[a1] = ra at hra
  walk_at "w"
  refine ⟨_, rfl, ?_⟩
  apply Kn.nx
  walk_at "env"
  walk_at "w"
  walk_at "w"
  walk_at "w"
  walk_at "w"
  apply W2.var rfl
  walk_at "w"
  walk_at "w"
  refine W2.var rfl ⟨_, rfl, ?_⟩
  apply W1.slL
  walk_at "w"
  apply W2.var rfl
  apply W2.pSome
  walk_at "w"
  apply W2.var rfl
  walk_at "w"
  walk_at "w"
  refine ⟨_, rfl, ?_⟩
  walk_at "w"
  apply W1.slL
  have e1 := cut_len R none (some (a1 : Int))
  have e2 := cut_len R (some ((a1 : Int) + 1)) none
  refine W1.addL (by omega) ?_
  rw [era_eq]
  have le := (rl.erase (j := a1)).l
  have lr := RL.erase (j := a1) rl
  apply Kn.nx
  walk_at "env"
  walk_at "w"
  apply W3.ite
  walk_at "w"
  apply W2.var rfl
  walk_at "w"
  walk_at "w"
  refine ⟨fun _ => ?_, fun c2 => W3.nil (Kn.nx ?_)⟩
  · repeat walk_at "w"
    exact ⟨_, _, .rem hra, by omega, A⟩
  walk_at "w"
  apply W3.ite
  walk_at "w"
  apply W2.var rfl
  walk_at "w"
  walk_at "w"
  refine ⟨fun _ => ?_, fun c3 => W3.nil (Kn.nx ?_)⟩
  · walk_at "w"
    walk_at "w"
    walk_at "w"
    walk_at "w"
    walk_at "w"
    walk_at "w"
    apply W2.var rfl
    walk_at "w"
    apply W2.var rfl
    walk_at "w"
    walk_at "w"
    walk_at "w"
    walk_at "w"
    apply W2.var rfl
    walk_at "w"
    walk_at "w"
    refine W2.var rfl ⟨_, rfl, ?_⟩
    apply W1.slL
    walk_at "w"
    walk_at "w"
    walk_at "w"
    apply W2.var rfl
    apply W2.var rfl
    refine idx_at (by omega) (by omega) fun x hx => ?_
    have hx : R[a1]? = some x := hx
    rw [hra] at hx
    cases hx
    walk_at "w"
    refine ⟨rfl, ?_⟩
    have e3 := cut_len (R.eraseIdx a1) none (some (b1 : Int))
    have e4 := cut_len (R.eraseIdx a1) (some (b1 : Int)) none
    refine W1.addL (by simp only [List.length_cons, List.length_nil]; omega) ?_
    walk_at "w"
    apply W2.var rfl
    walk_at "w"
    refine W2.var rfl ⟨_, rfl, ?_⟩
    walk_at "w"
    apply W1.slL
    refine W1.addL (by simp only [List.length_append, List.length_cons, List.length_nil]; omega) ?_
    walk_at "w"
    refine ⟨rfl, Kn.rt (W2.finF ⟨ins (R.eraseIdx a1) b1 ra, .non, ?_, Nat.le_trans (rl.mv hra).l (by decide), A⟩)⟩
    rw [ins_eq]
    exact .mov hra hb1
  · repeat walk_at "w"
    refine W1.mod (by decide) ?_
    repeat walk_at "w"
    have lens : ∀ b : Bool, ∀ P : D → Prop, (∀ z, z.length ≤ 1 → (∀ x ∈ z, x = r) → P (.lst z)) → W1 (binD .Mult (.lst [r]) (.int (if b then 1 else 0)) h4) P := fun b P q => by
      cases b with
      | true => exact .eq (x := .lst [r]) rfl (q _ (by simp) (by simp))
      | false => exact .eq (x := .lst []) rfl (q _ (by simp) (by simp))
    refine W2.eq (x := .int (if ((a1 : Int) % 2 == 0) then 1 else 0)) (h := h4) rfl ?_
    refine lens _ _ fun z hz hzr => ?_
    walk_at "w"
    apply W2.var rfl
    walk_at "w"
    walk_at "w"
    refine W2.cst ⟨_, rfl, ?_⟩
    apply W1.slL
    rw [show (5 : Int) = ((5 : Nat) : Int) from rfl, cut_take]
    have e3 : ((R.eraseIdx a1).take 5).length ≤ 5 := by rw [List.length_take]; omega
    refine W1.addL (by omega) ?_
    walk_at "w"
    refine ⟨rfl, Kn.rt (W2.finF ⟨z ++ (R.eraseIdx a1).take 5, .non, .set (fun x hx => ?_) (by rw [List.length_append]; omega), by rw [List.length_append]; omega, A⟩)⟩
    rcases List.mem_append.mp hx with hx | hx
    · rw [hzr x hx]; exact p
    · exact lr.pr x (List.mem_of_mem_take hx)
end EV

set_option Elab.async false
set_option linter.all false
set_option maxRecDepth 100000
set_option maxHeartbeats 1000000
namespace EV
open PySem
local macro_rules | `(tactic| walk_at "w") => `(tactic| first | ((with_reducible apply W2.var); exact rfl) | with_reducible apply W2.cst | with_reducible apply W2.evnil | with_reducible apply W2.evcons | with_reducible apply W2.tup | with_reducible apply W2.lstT | with_reducible apply W2.lstF | with_reducible apply W2.bin | with_reducible apply W2.idx | with_reducible apply W2.cmpT | with_reducible apply W2.cmp | with_reducible apply W2.neg | with_reducible apply W2.ntT | with_reducible apply W2.nt | with_reducible apply W2.and1T | with_reducible apply W2.andT | with_reducible apply W2.or1T | with_reducible apply W2.orT | with_reducible apply W2.and1 | with_reducible apply W2.and | with_reducible apply W2.ife | with_reducible apply W2.pNone | with_reducible apply W2.pSome | with_reducible apply W2.slc | with_reducible apply W2.isi | ((with_reducible apply W2.callS); exact rfl) | ((with_reducible apply W2.cmtS); exact rfl) | ((with_reducible apply W2.mkC); exact rfl) | ((with_reducible apply W2.mk0C); exact rfl) | ((with_reducible apply W2.mkSC); exact rfl) | with_reducible apply W2.bif | with_reducible apply W2.bim | with_reducible apply W2.att | with_reducible apply W2.meth | with_reducible apply W2.kmt | with_reducible apply W2.prp | with_reducible apply W2.sob | with_reducible apply W2.lno | with_reducible apply W2.eqo | with_reducible apply W2.isc | with_reducible apply W2.frz | with_reducible apply W2.gcl | with_reducible apply W2.rng1 | with_reducible apply W2.enm | ((with_reducible apply okL_and); exact rfl) | ((with_reducible apply W2.tV); exact rfl) | ((with_reducible apply W2.wV); exact rfl) | with_reducible apply W1.truB | with_reducible apply W1.itL | with_reducible apply W1.itT | with_reducible apply W1.add | with_reducible apply W1.sub | with_reducible apply W1.lt | with_reducible apply W1.le | with_reducible apply W1.gt | with_reducible apply W1.ge | with_reducible apply W1.eqI | with_reducible apply W1.neI | with_reducible apply W1.eqS | with_reducible apply W1.neS | with_reducible apply W1.isN | with_reducible apply W1.notN | with_reducible apply W1.isB | with_reducible apply W2.finF | with_reducible apply W2.lenT | with_reducible apply W2.lenL | with_reducible apply W3.cons | with_reducible apply W3.nil | with_reducible apply W3.asg | with_reducible apply W3.asgT | with_reducible apply W3.par | with_reducible apply W3.ex | with_reducible apply W3.ret | with_reducible apply W3.pas | with_reducible apply W3.ite | with_reducible apply W3.fset | with_reducible apply W3.for | with_reducible apply W3.forE | with_reducible apply Kn.nx | with_reducible apply Kn.rt | with_reducible apply W3.turnN)
local macro_rules | `(tactic| walk_at "env") => `(tactic| simp only [List.map_cons, List.map_nil, List.length_cons, List.length_nil, Nat.zero_add, Nat.reduceAdd, Nat.reduceSub, List.reduceReplicate, List.cons_append, List.nil_append, List.set_cons_zero, List.set_cons_succ])
class Sn (O : Orc) : Prop where
  src : ∀ (ns : List Int) (p : Nat) (h : MH), p ≤ 63 → ∃ s, O.call 4 [.scr ns, .int p] h = some (.adr h.length, h ++ [s]) ∧ Src 0 s
  names : ∀ (n i : Nat) (h : MH) (m : Int), AtH n i h → n + 10 ≤ 2 ^ 60 → 1 ≤ m → m ≤ 4 → W2 (O.call 6 [.adr i, .int m] h) fun d h' => ∃ ss : List S, d = .lst (ss.map .str) ∧ (ss.length : Int) = m ∧ NS ss ∧ Adv (n + 10) i h h'
  rows : ∀ (n i : Nat) (h : MH) (ss fs : List S), AtH n i h → HG h → n + 100 ≤ 2 ^ 60 → NS ss → NS fs → W2 (O.call 8 [.adr i, .lst (ss.map .str), .lst (fs.map .str), .int 3, .int 0] h) fun d h' => ∃ R, d = .lst R ∧ R.length = 3 ∧ (∀ r ∈ R, PR ss fs r) ∧ Adv (n + 12) i h h'
  edit : ∀ (n i : Nat) (h : MH) (ss fs : List S) (R : List D), AtH n i h → n + 100 ≤ 2 ^ 60 → NF ss fs → RL ss fs R → W2 (O.call 13 [.adr i, .lst R, .lst (ss.map .str), .lst (fs.map .str)] h) fun d h' => ∃ R' z, Ed ss fs R d R' z ∧ R'.length ≤ 7 ∧ Adv (n + 10) i h h'
instance (k : Nat) : Sn (orc SY (k + 4)) := ⟨fun ns p h hp => source_ok (k := k + 3) hp, fun n i h m a hn h1 h2 => by
    obtain ⟨ss, h', e, l, ns, A⟩ := names_ok (k := k + 2) (m := m) a hn (by omega) (by omega)
    exact .eq e ⟨ss, rfl, l, ⟨by omega, by omega, ns⟩, A⟩,
  fun n i h ss fs a hG hn hs hf => lrows_run (O := orc SY (k + 3)) a hG hn hs hf,
  fun n i h ss fs R a hn nf rl => edit_run (O := orc SY (k + 3)) (N0 := h.length) a hn nf rl⟩
theorem W2.kmtS {O : Orc} [Sy O] {o e : ME} {es : List ME} {σ : En} {h h1 : MH} {n i m s p f : Nat} {R : List D} {Q : D → MH → Prop} (t : St n i m s p R h1) (ho : (sem O o).v σ h = some (.adr s, h1)) (hf : SY.okM 1 f = true) (w : W2 (evs (sems O es) σ h1) fun ds h2 => W2 ((sem O e).v σ h2) fun y h3 => W2 (O.callK f (.adr s :: (ds ++ [y])) h3) Q) : W2 ((sem O (.kmt f o es e)).v σ h) Q := by
  apply W2.kmt
  exact W2.eq ho ⟨1, _, t.ins, by rw [Sy.okM, Sy.okF, hf]; rfl, w⟩
theorem edd_eq (k : Nat) (x y : D) (h : MH) : cl (k + 1) 14 [x, y] h = (runD (orc SY k) 6 b__law_edited [x, y] h).bind (fin false h.length) := rfl
theorem rgt_eq (k : Nat) (x y : D) (h : MH) : cl (k + 1) 15 [x, y] h = (runD (orc SY k) 2 b__law_right [x, y] h).bind (fin false h.length) := rfl
theorem law_eq (k : Nat) (x : D) (h : MH) : cl (k + 1) 16 [x] h = (runD (orc SY k) 13 b_law [x] h).bind (fin true h.length) := rfl
section
variable {O : Orc} [Sy O] {N0 n i m s p : Nat} {h : MH} {R : List D} {ss fs : List S}
theorem W1.eqs {x y : S} {h : MH} {b : Bool} {P : Bool → Prop} (e : (x == y) = b) (q : P b) : W1 (cmpD .Eq (.str x) (.str y) h) P := by
  subst e
  exact W1.eqS q
theorem edd_run [S4 O] {R' : List D} {d z : D} (nf : NF ss fs) (rl : RL ss fs R) (e : Ed ss fs R d R' z) (h6 : R'.length ≤ 6) (t : St n i m s p R h) (hm : m < 1000) :
    W2 ((runD O 6 b__law_edited [.adr s, d] h).bind (fin false N0)) fun y h' => y = z ∧ St n i (m + 1) s p R' h' := by
  have hl := rl.l
  apply W2.run
  walk_at "env"
  unfold b__law_edited
  walk_at "w"
  apply W3.asgT
  apply W2.var rfl
  cases e with
  | @put r w j hr hw =>
    have hl6 : R.length < 6 := by
      have h6 : (R.take j ++ r :: R.drop j).length ≤ 6 := h6
      rw [List.length_append, List.length_cons, List.length_take, List.length_drop] at h6
      rcases hw with ⟨_, e⟩ | ⟨_, e⟩ <;> omega
    refine ⟨[.str [112, 117, 116], r, w, .lst (ins R j r)], _, rfl, rfl, rfl, ?_⟩
    apply Kn.nx
    walk_at "env"
    walk_at "w"
    apply W3.ite
    apply W2.cmpT
    apply W2.var rfl
    apply W2.cst
    refine W1.eqs (b := true) rfl ⟨fun _ => ?_, fun c => (by cases c)⟩
    walk_at "w"
    walk_at "w"
    apply W2.ife
    apply W2.cmpT
    apply W2.var rfl
    apply W2.cst
    apply W1.isN
    rcases hw with ⟨rfl, rfl⟩ | ⟨rfl, hj⟩
    · refine ⟨fun _ => ?_, fun c => (by cases c)⟩
      refine W2.metS t rfl rfl ?_
      repeat walk_at "w"
      refine (S4.put (O := O) n i m s p R ss fs r h nf rl hr hl6 t hm).mono fun d h' ⟨e1, t2⟩ => ?_
      exact Kn.rt (W2.finF ⟨e1, t2⟩)
    · refine ⟨fun c => (by cases c), fun _ => ?_⟩
      refine W2.kmtS t rfl rfl ?_
      repeat walk_at "w"
      refine (S4.putK (O := O) n i m s p R ss fs r j h nf rl hr hl6 t hm hj).mono fun d h' ⟨e1, t2⟩ => ?_
      exact Kn.rt (W2.finF ⟨e1, t2⟩)
  | @rem r a hr =>
    refine ⟨[.str [114, 101, 109, 111, 118, 101], .int a, .non, .lst (R.eraseIdx a)], _, rfl, rfl, rfl, ?_⟩
    apply Kn.nx
    walk_at "env"
    walk_at "w"
    apply W3.ite
    apply W2.cmpT
    apply W2.var rfl
    apply W2.cst
    refine W1.eqs (b := false) rfl ⟨fun c => (by cases c), fun _ => W3.nil (Kn.nx ?_)⟩
    walk_at "w"
    apply W3.ite
    apply W2.cmpT
    apply W2.var rfl
    apply W2.cst
    refine W1.eqs (b := true) rfl ⟨fun _ => ?_, fun c => (by cases c)⟩
    walk_at "w"
    walk_at "w"
    refine W2.metS t rfl rfl ?_
    repeat walk_at "w"
    refine (S4.rem (O := O) n i m s p R ss fs z a h nf rl t hm hr).mono fun d h' ⟨e1, t2⟩ => ?_
    exact Kn.rt (W2.finF ⟨e1, t2⟩)
  | @mov r a b ha hb =>
    refine ⟨[.str [109, 111, 118, 101], .int a, .int b, .lst (ins (R.eraseIdx a) b r)], _, rfl, rfl, rfl, ?_⟩
    apply Kn.nx
    walk_at "env"
    walk_at "w"
    apply W3.ite
    apply W2.cmpT
    apply W2.var rfl
    apply W2.cst
    refine W1.eqs (b := false) rfl ⟨fun c => (by cases c), fun _ => W3.nil (Kn.nx ?_)⟩
    walk_at "w"
    apply W3.ite
    apply W2.cmpT
    apply W2.var rfl
    apply W2.cst
    refine W1.eqs (b := false) rfl ⟨fun c => (by cases c), fun _ => W3.nil (Kn.nx ?_)⟩
    walk_at "w"
    apply W3.ite
    apply W2.cmpT
    apply W2.var rfl
    apply W2.cst
    refine W1.eqs (b := true) rfl ⟨fun _ => ?_, fun c => (by cases c)⟩
    walk_at "w"
    walk_at "w"
    refine W2.metS t rfl rfl ?_
    repeat walk_at "w"
    refine (S4.mov (O := O) n i m s p R ss fs r a b h nf rl t hm ha hb).mono fun d h' ⟨e1, t2⟩ => ?_
    exact Kn.rt (W2.finF ⟨e1, t2⟩)
  | set hr hl2 =>
    refine ⟨[.str [115, 101, 116], .non, .non, .lst R'], _, rfl, rfl, rfl, ?_⟩
    apply Kn.nx
    walk_at "env"
    walk_at "w"
    apply W3.ite
    apply W2.cmpT
    apply W2.var rfl
    apply W2.cst
    refine W1.eqs (b := false) rfl ⟨fun c => (by cases c), fun _ => W3.nil (Kn.nx ?_)⟩
    walk_at "w"
    apply W3.ite
    apply W2.cmpT
    apply W2.var rfl
    apply W2.cst
    refine W1.eqs (b := false) rfl ⟨fun c => (by cases c), fun _ => W3.nil (Kn.nx ?_)⟩
    walk_at "w"
    apply W3.ite
    apply W2.cmpT
    apply W2.var rfl
    apply W2.cst
    refine W1.eqs (b := false) rfl ⟨fun c => (by cases c), fun _ => W3.nil (Kn.nx ?_)⟩
    walk_at "w"
    walk_at "w"
    refine W2.metS t rfl rfl ?_
    walk_at "w"
    apply W2.idx
    apply W2.lstT
    walk_at "w"
    apply W2.bif
    walk_at "w"
    apply W2.var rfl
    walk_at "w"
    refine W2.eq (x := .tup R') (h := h) rfl ?_
    walk_at "w"
    apply W2.bif
    walk_at "w"
    apply W2.var rfl
    walk_at "w"
    refine W2.eq (x := .lst R') (h := h) rfl ?_
    walk_at "w"
    refine ⟨rfl, ?_⟩
    apply W2.bin
    repeat walk_at "w"
    refine W1.mod (by decide) ?_
    have m0 : 0 ≤ (R'.length : Int) % 2 := Int.emod_nonneg _ (by decide)
    have m1 : (R'.length : Int) % 2 < 2 := Int.emod_lt_of_pos _ (by decide)
    refine idx_at m0 (by simpa using m1) fun x hx => ?_
    have hx2 : x = .tup R' ∨ x = .lst R' := by
      have : ((R'.length : Int) % 2).toNat = 0 ∨ ((R'.length : Int) % 2).toNat = 1 := by omega
      rcases this with e | e <;> rw [e] at hx <;> cases hx
      · exact .inl rfl
      · exact .inr rfl
    walk_at "w"
    have go := S4.asn (O := O) n i m s p R R' ss fs x h nf rl ⟨hr, hl2⟩ t hm (by rcases hx2 with rfl | rfl <;> rfl) (by rcases hx2 with rfl | rfl <;> rfl)
    refine go.mono fun d h' ⟨e1, t2, _⟩ => ?_
    repeat walk_at "w"
    exact ⟨rfl, t2⟩
theorem rgt_run [Po O] [S1 O] (nf : NF ss fs) (rl : RL ss fs R) (t : St n i m s p R h) : W2 ((runD O 2 b__law_right [.adr s, .lst R] h).bind (fin false N0)) fun y h' => y = .bl true ∧ h' = h := by
  have hl := rl.l
  have hp1 := plains_pr rl.pr
  have hp : plain 60 (.tup R) = true := plains_mono hp1 (by decide)
  apply W2.run
  walk_at "env"
  unfold b__law_right
  walk_at "w"
  apply W3.ite
  apply W2.orT
  apply W2.cmpT
  refine W2.rowsS t rfl ?_
  apply W2.bif
  walk_at "w"
  apply W2.var rfl
  walk_at "w"
  refine W2.eq (x := .tup R) (h := h) rfl ?_
  refine W1.neP hp hp ?_
  rw [deq_self hp]
  refine ⟨fun _ => ?_, fun c => by cases c⟩
  apply W2.orT
  apply W2.cmpT
  refine W2.lnoS t hl rfl ?_
  apply W2.bif
  walk_at "w"
  apply W2.var rfl
  walk_at "w"
  apply W2.lenL
  apply W1.neI
  rw [show ((R.length : Int) != R.length) = false by simp]
  refine ⟨fun _ => ?_, fun c => by cases c⟩
  apply W2.or1T
  apply W2.ntT
  refine W2.tV rfl ?_
  apply W2.isc
  refine W2.prpS t rfl rfl ?_
  refine (S1.prog (O := O) n i m s p R h t).mono fun d h1 ⟨e1, e2⟩ => ?_
  subst e1 e2
  refine ⟨_, rfl, by rw [Sy.okX]; rfl, ?_⟩
  apply W1.truB
  refine ⟨fun c => (by cases c), fun _ => W3.nil (Kn.nx ?_)⟩
  walk_at "w"
  walk_at "w"
  apply W2.cmp
  apply W2.eqo
  refine W2.prpS t rfl rfl ?_
  refine (S1.prog (O := O) n i m s p R h1 t).mono fun d h2 ⟨e1, e2⟩ => ?_
  subst e1 e2
  apply W2.cmtS rfl
  walk_at "w"
  apply W2.var rfl
  walk_at "w"
  refine (Po.of_ (O := O) h2 ss fs R (.lst R) nf rl t.g rfl).mono fun d h3 ⟨e1, e2⟩ => ?_
  subst e1 e2
  refine ⟨0, _, _, rfl, rfl, by rw [Sy.okX]; rfl, ?_⟩
  refine (Po.eq_ (O := O) h3 R (plains_mono hp1 (by decide))).mono fun d h4 ⟨e1, e2⟩ => ?_
  subst e1 e2
  refine ⟨true, rfl, ?_⟩
  apply W2.cst
  apply W1.isB
  exact Kn.rt (W2.finF ⟨rfl, rfl⟩)
end
class S5 (O : Orc) : Prop where
  edd : ∀ (n i m s p : Nat) (R R' : List D) (ss fs : List S) (d z : D) (h : MH), NF ss fs → RL ss fs R → Ed ss fs R d R' z → R'.length ≤ 6 → St n i m s p R h → m < 1000 → W2 (O.call 14 [.adr s, d] h) fun y h' => y = z ∧ St n i (m + 1) s p R' h'
  rgt : ∀ (n i m s p : Nat) (R : List D) (ss fs : List S) (h : MH), NF ss fs → RL ss fs R → St n i m s p R h → W2 (O.call 15 [.adr s, .lst R] h) fun y h' => y = .bl true ∧ h' = h
instance (k : Nat) : S5 (orc SY (k + 11)) := ⟨fun n i m s p R R' ss fs d z h nf rl e h6 t hm => edd_run (O := orc SY (k + 10)) (N0 := h.length) nf rl e h6 t hm, fun n i m s p R ss fs h nf rl t => rgt_run (O := orc SY (k + 10)) (N0 := h.length) nf rl t⟩
theorem Ed.rl {ss fs : List S} {R R' : List D} {d z : D} (rl : RL ss fs R) (e : Ed ss fs R d R' z) (h6 : R'.length ≤ 6) : RL ss fs R' := by
  refine ⟨?_, h6⟩
  have insm : ∀ {L : List D} {j : Nat} {r : D}, (∀ x ∈ L, PR ss fs x) → PR ss fs r → ∀ x ∈ ins L j r, PR ss fs x := fun {L j r} hL hr x hx => by
    rcases List.mem_append.mp hx with hx | hx
    · exact hL x (List.mem_of_mem_take hx)
    · rcases List.mem_cons.mp hx with rfl | hx
      · exact hr
      · exact hL x (List.mem_of_mem_drop hx)
  cases e with
  | put hr hw => exact insm rl.pr hr
  | rem hr => exact rl.erase.pr
  | mov ha hb => exact insm rl.erase.pr (rl.pr _ (List.mem_of_getElem? ha))
  | set hr hl => exact hr
end EV

set_option Elab.async false
set_option linter.all false
set_option maxRecDepth 100000
set_option maxHeartbeats 2000000
namespace EV
open PySem
local macro_rules | `(tactic| walk_at "w") => `(tactic| first | ((with_reducible apply W2.var); exact rfl) | with_reducible apply W2.cst | with_reducible apply W2.evnil | with_reducible apply W2.evcons | with_reducible apply W2.tup | with_reducible apply W2.lstT | with_reducible apply W2.lstF | with_reducible apply W2.bin | with_reducible apply W2.idx | with_reducible apply W2.cmpT | with_reducible apply W2.cmp | with_reducible apply W2.neg | with_reducible apply W2.ntT | with_reducible apply W2.nt | with_reducible apply W2.and1T | with_reducible apply W2.andT | with_reducible apply W2.or1T | with_reducible apply W2.orT | with_reducible apply W2.and1 | with_reducible apply W2.and | with_reducible apply W2.ife | with_reducible apply W2.pNone | with_reducible apply W2.pSome | with_reducible apply W2.slc | with_reducible apply W2.isi | ((with_reducible apply W2.callS); exact rfl) | ((with_reducible apply W2.cmtS); exact rfl) | ((with_reducible apply W2.mkC); exact rfl) | ((with_reducible apply W2.mk0C); exact rfl) | ((with_reducible apply W2.mkSC); exact rfl) | with_reducible apply W2.bif | with_reducible apply W2.bim | with_reducible apply W2.att | with_reducible apply W2.meth | with_reducible apply W2.kmt | with_reducible apply W2.prp | with_reducible apply W2.sob | with_reducible apply W2.lno | with_reducible apply W2.eqo | with_reducible apply W2.isc | with_reducible apply W2.frz | with_reducible apply W2.gcl | with_reducible apply W2.rng1 | with_reducible apply W2.enm | ((with_reducible apply okL_and); exact rfl) | ((with_reducible apply W2.tV); exact rfl) | ((with_reducible apply W2.wV); exact rfl) | with_reducible apply W1.truB | with_reducible apply W1.itL | with_reducible apply W1.itT | with_reducible apply W1.add | with_reducible apply W1.sub | with_reducible apply W1.lt | with_reducible apply W1.le | with_reducible apply W1.gt | with_reducible apply W1.ge | with_reducible apply W1.eqI | with_reducible apply W1.neI | with_reducible apply W1.eqS | with_reducible apply W1.neS | with_reducible apply W1.isN | with_reducible apply W1.notN | with_reducible apply W1.isB | with_reducible apply W2.finF | with_reducible apply W2.lenT | with_reducible apply W2.lenL | with_reducible apply W3.cons | with_reducible apply W3.nil | with_reducible apply W3.asg | with_reducible apply W3.asgT | with_reducible apply W3.par | with_reducible apply W3.ex | with_reducible apply W3.ret | with_reducible apply W3.pas | with_reducible apply W3.ite | with_reducible apply W3.fset | with_reducible apply W3.for | with_reducible apply W3.forE | with_reducible apply Kn.nx | with_reducible apply Kn.rt | with_reducible apply W3.turnN)
local macro_rules | `(tactic| walk_at "env") => `(tactic| simp only [List.map_cons, List.map_nil, List.length_cons, List.length_nil, Nat.zero_add, Nat.reduceAdd, Nat.reduceSub, List.reduceReplicate, List.cons_append, List.nil_append, List.set_cons_zero, List.set_cons_succ])
theorem W2.minI {a b : Int} {h : MH} {Q : D → MH → Prop} (q : Q (.int (if b < a then b else a)) h) : W2 (bifD .min [.int a, .int b] h) Q := .eq rfl q
theorem W2.maxI {a b : Int} {h : MH} {Q : D → MH → Prop} (q : Q (.int (if b > a then b else a)) h) : W2 (bifD .max [.int a, .int b] h) Q := .eq rfl q
theorem W2.lenScr {ns : List Int} {h : MH} {Q : D → MH → Prop} (q : Q (.int (ns.map D.int).length) h) : W2 (bifD .len [.scr ns] h) Q := .eq rfl q
theorem HG.push2 {h : MH} {o u : MO} (g : HG h) (ho : ∀ (N : Nat) (H : MH), h.length + 2 ≤ N → fzO N H 12 o = some o) (hu : ∀ (N : Nat) (H : MH), h.length + 2 ≤ N → fzO N H 12 u = some u) : HG (h ++ [o] ++ [u]) := by
  intro x hx N H hN
  rw [List.length_append, List.length_append, List.length_singleton, List.length_singleton] at hN
  rcases List.mem_append.mp hx with hx | hx
  · rcases List.mem_append.mp hx with hx | hx
    · exact g x hx N H (by omega)
    · have : x = o := by simpa using hx
      rw [this]; exact ho N H (by omega)
  · have : x = u := by simpa using hx
    rw [this]; exact hu N H (by omega)
theorem HG.sheet {h : MH} {R : List D} (g : HG h) (hp : plains 1 R = true) : HG (h ++ [.ins 1 [(1, pgm R), (2, .adr (h.length + 1))]] ++ [.lst []]) := by
  refine g.push2 (fun N H hN => ?_) fun N H _ => rfl
  have e1 : fz N H 12 (pgm R) = some (pgm R) := fz_pgm hp (by decide)
  have e2 : fz N H 12 (.adr (h.length + 1)) = some (.adr (h.length + 1)) := if_pos (by omega)
  show (eachM (fz N H 12) [pgm R, .adr (h.length + 1)]).map (fun vs => MO.ins 1 ([1, 2].zip vs)) = _
  rw [show ([pgm R, D.adr (h.length + 1)] : List D) = [pgm R] ++ [.adr (h.length + 1)] from rfl, eachM_app (eachM_one e1) (eachM_one e2)]
  rfl
theorem St.make {n i : Nat} {R : List D} {h : MH} (a : AtH n i h) (g : HG h) (hp : plains 1 R = true) : St n i 0 h.length (h.length + 1) R (h ++ [.ins 1 [(1, pgm R), (2, .adr (h.length + 1))]] ++ [.lst []]) := by
  have hi := a.lt
  refine ⟨g.sheet hp, (a.app _).app _, ?_, ⟨[], ?_, Nat.le_refl _⟩, by omega, by omega, by omega⟩
  · exact get_app (get_last rfl)
  · exact get_last (by simp)
theorem St.app2 {n i m s p : Nat} {R R2 : List D} {h : MH} (t : St n i m s p R h) (hp : plains 1 R2 = true) : St n i m s p R (h ++ [.ins 1 [(1, pgm R2), (2, .adr (h.length + 1))]] ++ [.lst []]) := by
  obtain ⟨ps, e, l⟩ := t.pa
  exact ⟨t.g.sheet hp, (t.a.app _).app _, get_app (get_app t.sh), ⟨ps, get_app (get_app e), l⟩, t.n1, t.n2, t.n3⟩
theorem St.put {n i m s p q : Nat} {R xs : List D} {h : MH} (t : St n i m s p R h) (hp : plains 10 xs = true) (q1 : q ≠ i) (q2 : q ≠ s) (q3 : q ≠ p) : St n i m s p R (h.set q (.lst xs)) := by
  obtain ⟨ps, e, l⟩ := t.pa
  obtain ⟨o, ho, S⟩ := t.a
  exact ⟨t.g.put fun N H _ => fzs_flat hp N H, ⟨o, by rw [List.getElem?_set_ne q1]; exact ho, S⟩, by rw [List.getElem?_set_ne q2]; exact t.sh, ⟨ps, by rw [List.getElem?_set_ne q3]; exact e, l⟩, t.n1, t.n2, t.n3⟩
section
variable {O : Orc} [Sy O] [Dr O] [Po O] [S1 O] [S4 O] [S5 O] [Sn O] {ss fs : List S}
theorem Ed.due {R R' : List D} {d z : D} {σ : En} {h : MH} {Q : D → MH → Prop} (rl : RL ss fs R) (e : Ed ss fs R d R' z) (s9 : σ[9]? = some (some (.lst R))) (s10 : σ[10]? = some (some d)) (q : plain 60 z = true → Q z h) : W2 ((sem O (.ife (.cmp .Eq (.idx (.var 10) (.cst (.int 0))) (.cst (.str [114, 101, 109, 111, 118, 101]))) (.idx (.var 9) (.idx (.var 10) (.cst (.int 1)))) (.cst .non))).v σ h) Q := by
  apply W2.ife
  apply W2.cmpT
  apply W2.idx
  apply W2.var s10
  apply W2.cst
  cases e with
  | put hr hw =>
    refine W1.eq (idxN 0 rfl) ?_
    apply W2.cst
    refine W1.eqs (b := false) rfl ⟨fun c => (by cases c), fun _ => W2.cst (q rfl)⟩
  | @rem r a hr =>
    refine W1.eq (idxN 0 rfl) ?_
    apply W2.cst
    refine W1.eqs (b := true) rfl ⟨fun _ => ?_, fun c => (by cases c)⟩
    have hlt := (List.getElem?_eq_some_iff.mp hr).1
    apply W2.idx
    apply W2.var s9
    apply W2.idx
    apply W2.var s10
    apply W2.cst
    refine W1.eq (idxN 1 rfl) ?_
    refine idx_at (by omega) (by omega) fun x hx => ?_
    have hx : R[a]? = some x := hx
    rw [hr] at hx
    cases hx
    exact q (plain_mono (rl.pr _ (List.mem_of_getElem? hr)).p1 (by decide))
  | mov ha hb =>
    refine W1.eq (idxN 0 rfl) ?_
    apply W2.cst
    refine W1.eqs (b := false) rfl ⟨fun c => (by cases c), fun _ => W2.cst (q rfl)⟩
  | set hr hl =>
    refine W1.eq (idxN 0 rfl) ?_
    apply W2.cst
    refine W1.eqs (b := false) rfl ⟨fun c => (by cases c), fun _ => W2.cst (q rfl)⟩
theorem Ed.aft {R R' : List D} {d z : D} {h : MH} (e : Ed ss fs R d R' z) : idxD d (.int 3) h = some (.lst R') := by
  cases e <;> exact idxN 3 rfl
/-- a turn of the walk over edits -/
def tnB : List MS := [.asg (.nm 10) (.call 13 [(.var 2), (.var 9), (.var 6), (.var 7)]), .ite (.cmp .LtE (.bif .len [(.idx (.var 10) (.cst (.int 3)))]) (.cst (.int 6))) [.asg (.nm 11) (.prp (.var 8) 23), .asg (.nm 12) (.call 14 [(.var 8), (.var 10)]), .ite (.orE [(.cmp .NotEq (.var 12) (.ife (.cmp .Eq (.idx (.var 10) (.cst (.int 0))) (.cst (.str [114, 101, 109, 111, 118, 101]))) (.idx (.var 9) (.idx (.var 10) (.cst (.int 1)))) (.cst .non))), (.cmp .NotEq (.prp (.var 11) 19) (.bif .tuple [(.var 9)]))]) [.ret (.cst (.bl false))] [], .asg (.nm 9) (.idx (.var 10) (.cst (.int 3)))] [], .ite (.nt (.call 15 [(.var 8), (.var 9)])) [.ret (.cst (.bl false))] []]
abbrev lwS (ns : List Int) (x1 x3 x4 x5 : Option D) (i s : Nat) (L M R : List D) (x10 x11 x12 : Option D) : En := [some (.scr ns), x1, some (.adr i), x3, x4, x5, some (.lst L), some (.lst M), some (.adr s), some (.lst R), x10, x11, x12]
theorem tn_run {ns : List Int} {x1 x3 x4 x5 x10 x11 x12 : Option D} {n i m s p : Nat} {R : List D} {h : MH} (nf : NF ss fs) (rl : RL ss fs R) (t : St n i m s p R h) (hn : n + 100 ≤ 2 ^ 60) (hm : m < 1000) :
    W3 (execs O tnB (lwS ns x1 x3 x4 x5 i s (ss.map .str) (fs.map .str) R x10 x11 x12) h) fun f σ h' => f = .nx ∧ ∃ R' y10 y11 y12, σ = lwS ns x1 x3 x4 x5 i s (ss.map .str) (fs.map .str) R' y10 y11 y12 ∧ RL ss fs R' ∧ St (n + 10) i (m + 1) s p R' h' := by
  unfold tnB lwS
  repeat walk_at "w"
  refine (Sn.edit (O := O) n i h ss fs R t.a hn nf rl).mono fun d h1 ⟨R', z, e, h7, A⟩ => ?_
  have t1 : St (n + 10) i m s p R h1 := t.adv A
  apply Kn.nx
  walk_at "env"
  walk_at "w"
  apply W3.ite
  apply W2.cmpT
  apply W2.bif
  apply W2.evcons
  apply W2.idx
  apply W2.var rfl
  apply W2.cst
  refine W1.eq e.aft ?_
  apply W2.evnil
  apply W2.lenL
  apply W2.cst
  apply W1.le
  have last : ∀ (R2 : List D) (m2 : Nat) (y11 y12 : Option D) (h2 : MH), RL ss fs R2 → St (n + 10) i m2 s p R2 h2 → m2 ≤ m + 1 → W3 (execs O [.ite (.nt (.call 15 [(.var 8), (.var 9)])) [.ret (.cst (.bl false))] []] [some (.scr ns), x1, some (.adr i), x3, x4, x5, some (.lst (ss.map .str)), some (.lst (fs.map .str)), some (.adr s), some (.lst R2), some d, y11, y12] h2) fun f σ h' => f = .nx ∧ ∃ R' y10 y11 y12, σ = lwS ns x1 x3 x4 x5 i s (ss.map .str) (fs.map .str) R' y10 y11 y12 ∧ RL ss fs R' ∧ St (n + 10) i (m + 1) s p R' h' := fun R2 m2 y11 y12 h2 rl2 t2 hm2 => by
    walk_at "w"
    apply W3.ite
    apply W2.ntT
    refine W2.tV rfl ?_
    apply W2.callS rfl
    repeat walk_at "w"
    refine (S5.rgt (O := O) (n + 10) i m2 s p R2 ss fs h2 nf rl2 t2).mono fun d2 h3 ⟨e1, e2⟩ => ?_
    subst e1 e2
    apply W1.truB
    exact ⟨fun c => (by cases c), fun _ => W3.nil (Kn.nx (W3.nil ⟨rfl, _, _, _, _, rfl, rl2, t2.mono (Nat.le_refl _) hm2⟩))⟩
  refine ⟨fun c => ?_, fun _ => W3.nil (Kn.nx (last R m _ _ h1 rl t1 (by omega)))⟩
  have h6 : R'.length ≤ 6 := by have := of_decide_eq_true c; omega
  have rl2 := e.rl rl h6
  have hp : plain 60 (.tup R) = true := plains_mono (plains_pr rl.pr) (by decide)
  walk_at "w"
  walk_at "w"
  refine W2.prpS t1 rfl rfl ?_
  refine (S1.prog (O := O) _ i m s p R h1 t1).mono fun d2 h2 ⟨e1, e2⟩ => ?_
  subst e1 e2
  apply Kn.nx
  walk_at "env"
  repeat walk_at "w"
  refine (S5.edd (O := O) _ i m s p R R' ss fs d z h2 nf rl e h6 t1 hm).mono fun y h3 ⟨e1, t3⟩ => ?_
  subst e1
  apply Kn.nx
  walk_at "env"
  walk_at "w"
  apply W3.ite
  apply W2.orT
  apply W2.cmpT
  apply W2.var rfl
  refine e.due rl rfl rfl fun hz => ?_
  refine W1.neP hz hz ?_
  rw [deq_self hz]
  refine ⟨fun _ => ?_, fun c => by cases c⟩
  apply W2.or1T
  apply W2.cmpT
  refine W2.prpP rfl ?_
  apply W2.bif
  walk_at "w"
  apply W2.var rfl
  walk_at "w"
  refine W2.eq (x := .tup R) (h := h3) rfl ?_
  refine W1.neP hp hp ?_
  rw [deq_self hp]
  refine ⟨fun c => (by cases c), fun _ => W3.nil (Kn.nx ?_)⟩
  walk_at "w"
  walk_at "w"
  apply W2.idx
  apply W2.var rfl
  apply W2.cst
  refine W1.eq e.aft ?_
  apply Kn.nx
  walk_at "env"
  refine W3.nil (Kn.nx ?_)
  exact last R' (m + 1) _ _ h3 rl2 t3 (Nat.le_refl _)
end
end EV

set_option Elab.async false
set_option linter.all false
set_option maxRecDepth 100000
set_option maxHeartbeats 2000000
namespace EV
open PySem
local macro_rules | `(tactic| walk_at "w") => `(tactic| first | ((with_reducible apply W2.var); exact rfl) | with_reducible apply W2.cst | with_reducible apply W2.evnil | with_reducible apply W2.evcons | with_reducible apply W2.tup | with_reducible apply W2.lstT | with_reducible apply W2.lstF | with_reducible apply W2.bin | with_reducible apply W2.idx | with_reducible apply W2.cmpT | with_reducible apply W2.cmp | with_reducible apply W2.neg | with_reducible apply W2.ntT | with_reducible apply W2.nt | with_reducible apply W2.and1T | with_reducible apply W2.andT | with_reducible apply W2.or1T | with_reducible apply W2.orT | with_reducible apply W2.and1 | with_reducible apply W2.and | with_reducible apply W2.ife | with_reducible apply W2.pNone | with_reducible apply W2.pSome | with_reducible apply W2.slc | with_reducible apply W2.isi | ((with_reducible apply W2.callS); exact rfl) | ((with_reducible apply W2.cmtS); exact rfl) | ((with_reducible apply W2.mkC); exact rfl) | ((with_reducible apply W2.mk0C); exact rfl) | ((with_reducible apply W2.mkSC); exact rfl) | with_reducible apply W2.bif | with_reducible apply W2.bim | with_reducible apply W2.att | with_reducible apply W2.meth | with_reducible apply W2.kmt | with_reducible apply W2.prp | with_reducible apply W2.sob | with_reducible apply W2.lno | with_reducible apply W2.eqo | with_reducible apply W2.isc | with_reducible apply W2.frz | with_reducible apply W2.gcl | with_reducible apply W2.rng1 | with_reducible apply W2.enm | ((with_reducible apply okL_and); exact rfl) | ((with_reducible apply W2.tV); exact rfl) | ((with_reducible apply W2.wV); exact rfl) | with_reducible apply W1.truB | with_reducible apply W1.itL | with_reducible apply W1.itT | with_reducible apply W1.add | with_reducible apply W1.sub | with_reducible apply W1.lt | with_reducible apply W1.le | with_reducible apply W1.gt | with_reducible apply W1.ge | with_reducible apply W1.eqI | with_reducible apply W1.neI | with_reducible apply W1.eqS | with_reducible apply W1.neS | with_reducible apply W1.isN | with_reducible apply W1.notN | with_reducible apply W1.isB | with_reducible apply W2.finF | with_reducible apply W2.lenT | with_reducible apply W2.lenL | with_reducible apply W3.cons | with_reducible apply W3.nil | with_reducible apply W3.asg | with_reducible apply W3.asgT | with_reducible apply W3.par | with_reducible apply W3.ex | with_reducible apply W3.ret | with_reducible apply W3.pas | with_reducible apply W3.ite | with_reducible apply W3.fset | with_reducible apply W3.for | with_reducible apply W3.forE | with_reducible apply Kn.nx | with_reducible apply Kn.rt | with_reducible apply W3.turnN)
local macro_rules | `(tactic| walk_at "env") => `(tactic| simp only [List.map_cons, List.map_nil, List.length_cons, List.length_nil, Nat.zero_add, Nat.reduceAdd, Nat.reduceSub, List.reduceReplicate, List.cons_append, List.nil_append, List.set_cons_zero, List.set_cons_succ])
theorem plains_app {n : Nat} : ∀ {xs ys : List D}, plains n xs = true → plains n ys = true → plains n (xs ++ ys) = true
  | [], _, _, h => h
  | x :: xs, ys, h1, h2 => by
    have h3 := Bool.and_eq_true_iff.mp h1
    show (plain n x && plains n (xs ++ ys)) = true
    rw [h3.1, plains_app h3.2 h2]
    rfl
section
variable {O : Orc} [Sy O] [Dr O] [Po O] [S1 O] [S4 O] [S5 O] [Sn O]
def plH : List MS := [.asg (.nm 2) (.call 4 [(.var 0), (.var 1)]), .par [6, 7] [(.call 6 [(.var 2), (.bin .Add (.cst (.int 1)) (.call 5 [(.var 2), (.cst (.int 4))]))]), (.call 6 [(.var 2), (.cst (.int 2))])], .asg (.nm 3) (.call 8 [(.var 2), (.var 6), (.var 7), (.cst (.int 3)), (.cst (.int 0))])]
def plM : List MS := [.asg (.tp [8, 9]) (.idx (.lst true [(.tup [(.mk0 1 22), (.lst true [])]), (.tup [(.mk 1 22 [(.idx (.var 3) (.cst (.int 0))), (.idx (.var 3) (.cst (.int 1))), (.idx (.var 3) (.cst (.int 2)))]), (.var 3)])]) (.call 5 [(.var 2), (.cst (.int 2))]))]
def plT : List MS := [.ite (.nt (.call 15 [(.var 8), (.var 9)])) [.ret (.cst (.bl false))] [], .forS (.nm 4) (.rng1 (.cst (.int 15))) tnB, .asg (.nm 5) (.bif (.list false) [(.var 9)]), .ex (.meth 25 (.var 8) [(.var 5)]), .ex (.bim .append (.var 5) [(.tup [(.cst (.str [110, 101, 119])), (.cst (.str [97]))])]), .ite (.nt (.call 15 [(.var 8), (.var 9)])) [.ret (.cst (.bl false))] []]
theorem execs_app2 {a b : List MS} {σ : En} {h : MH} {R : Fl → En → MH → Prop} (w : W3 (execs O a σ h) fun f σ1 h1 => f = .nx ∧ W3 (execs O b σ1 h1) R) : W3 (execs O (a ++ b) σ h) R := by
  obtain ⟨f, σ1, h1, e, rfl, f2, σ2, h2, e2, q⟩ := w
  exact .eq (by rw [execs_app e]; exact e2) q
/-- whether the sheet has these rows -/
theorem rgt_st {ss fs : List S} {rest : List MS} {ns : List Int} {x1 x3 x4 x5 x10 x11 x12 : Option D} {n i m s p : Nat} {R : List D} {h : MH} {K : Fl → En → MH → Prop} (nf : NF ss fs) (rl : RL ss fs R) (t : St n i m s p R h) (q : W3 (execs O rest (lwS ns x1 x3 x4 x5 i s (ss.map .str) (fs.map .str) R x10 x11 x12) h) K) :
    W3 (execs O (.ite (.nt (.call 15 [(.var 8), (.var 9)])) [.ret (.cst (.bl false))] [] :: rest) (lwS ns x1 x3 x4 x5 i s (ss.map .str) (fs.map .str) R x10 x11 x12) h) K := by
  unfold lwS
  walk_at "w"
  apply W3.ite
  apply W2.ntT
  refine W2.tV rfl ?_
  apply W2.callS rfl
  repeat walk_at "w"
  refine (S5.rgt (O := O) n i m s p R ss fs h nf rl t).mono fun d2 h3 ⟨e1, e2⟩ => ?_
  subst e1 e2
  apply W1.truB
  exact ⟨fun c => (by cases c), fun _ => W3.nil (Kn.nx q)⟩
theorem plT_run {ss fs : List S} {ns : List Int} {x1 x3 x4 x5 x10 x11 x12 : Option D} {n i s p : Nat} {R : List D} {h : MH} (nf : NF ss fs) (rl : RL ss fs R) (t : St n i 0 s p R h) (hn : n ≤ 1000) :
    W3 (execs O plT (lwS ns x1 x3 x4 x5 i s (ss.map .str) (fs.map .str) R x10 x11 x12) h) fun f σ h' => f = .nx ∧ HG h' ∧ ∃ y2 y3 y4 y5 y6 y7 y8 y9 y10 y11 y12, σ = [some (.scr ns), x1, y2, y3, y4, y5, y6, y7, y8, y9, y10, y11, y12] := by
  unfold plT
  refine rgt_st nf rl t ?_
  walk_at "w"
  apply W3.for
  apply W2.rng1
  refine W2.cst ⟨15, rfl, by decide, by decide, ?_⟩
  refine W3.loop (fun j σ h1 => ∃ R y4 y10 y11 y12, σ = lwS ns x1 x3 y4 x5 i s (ss.map .str) (fs.map .str) R y10 y11 y12 ∧ RL ss fs R ∧ St (n + 10 * j) i j s p R h1) ⟨R, _, _, _, _, rfl, rl, t⟩ (fun j x σ h1 hx ⟨R, y4, y10, y11, y12, es, rl, t⟩ => ?_) fun σ1 h1 ⟨R, y4, y10, y11, y12, es, rl, t⟩ => ?_
  · subst es
    have hj : j < 15 := by
      have := (List.getElem?_eq_some_iff.mp hx).1
      simpa using this
    apply W3.turnN
    refine (tn_run (O := O) (ns := ns) (x1 := x1) (x3 := x3) (x4 := some x) (x5 := x5) (x10 := y10) (x11 := y11) (x12 := y12) nf rl t (by omega) (by omega)).mono fun f σ h2 ⟨e, R', z10, z11, z12, es, rl2, t2⟩ => ?_
    subst e es
    exact ⟨R', _, _, _, _, rfl, rl2, t2.mono (by omega) (Nat.le_refl _)⟩
  subst es
  have t : St (n + 150) i 15 s p R h1 := by simpa using t
  have hi := t.a.lt
  have hs := (List.getElem?_eq_some_iff.mp t.sh).1
  have ⟨ps, hpp, _⟩ := t.pa
  have hp := (List.getElem?_eq_some_iff.mp hpp).1
  apply Kn.nx
  unfold lwS
  walk_at "w"
  walk_at "w"
  apply W2.bif
  walk_at "w"
  apply W2.var rfl
  walk_at "w"
  refine W2.eq (x := .adr h1.length) (h := h1 ++ [.lst R]) rfl ?_
  apply Kn.nx
  walk_at "env"
  have t2 : St (n + 150) i 15 s p R (h1 ++ [.lst R]) := t.push (plains_mono (plains_pr rl.pr) (by decide))
  walk_at "w"
  walk_at "w"
  refine W2.metS t2 rfl rfl ?_
  repeat walk_at "w"
  have ty : isTs (h1 ++ [MO.lst R]) (.adr h1.length) [.list, .tuple] = some true := by
    have e : dTy (h1 ++ [MO.lst R]) (.adr h1.length) = some "list" := by
      show (match (h1 ++ [MO.lst R])[h1.length]? with
        | some (.lst _) => some "list"
        | some (.dct _ _) => some "dict"
        | _ => none) = _
      rw [get_last rfl]
    simp [isTs, isT, e, tyS, subT]
  refine (S4.asn (O := O) _ i 15 s p R R ss fs _ _ nf rl rl t2 (by decide) (ixs (get_last rfl)) ty).mono fun d h3 ⟨e1, t3, e2, fr⟩ => ?_
  subst e1
  have hq : h3[h1.length]? = some (.lst R) := by rw [fr h1.length (by omega) (by omega)]; exact get_last rfl
  apply Kn.nx
  walk_at "w"
  walk_at "w"
  apply W2.bim
  apply W2.var rfl
  refine ⟨by show (lstD _ _).isSome = true; rw [ixl hq]; rfl, ?_⟩
  repeat walk_at "w"
  have hl := rl.l
  refine W2.eq (x := .non) (h := h3.set h1.length (.lst (R ++ [.tup [.str [110, 101, 119], .str [97]]]))) ?_ ?_
  · show appendM h3 (.adr h1.length) [_] = _
    unfold appendM
    dsimp only
    rw [hq]
    dsimp only
    rw [if_pos (show okL (R.length + 1) = true from decide_eq_true (by omega))]
  have hpl : plains 10 (R ++ [.tup [.str [110, 101, 119], .str [97]]]) = true := by
    exact plains_app (plains_mono (plains_pr rl.pr) (by decide)) rfl
  have t4 := t3.put (q := h1.length) hpl (by omega) (by omega) (by omega)
  apply Kn.nx
  refine rgt_st nf rl t4 ?_
  exact W3.nil ⟨rfl, t4.g, _, _, _, _, _, _, _, _, _, _, _, rfl⟩
theorem plM_run {ss fs : List S} {ns : List Int} {x1 x4 x5 x8 x9 x10 x11 x12 : Option D} {n i : Nat} {R : List D} {h : MH} (nf : NF ss fs) (hR : R.length = 3) (pr : ∀ r ∈ R, PR ss fs r) (a : AtH n i h) (g : HG h) (hn : n ≤ 900) :
    W3 (execs O plM [some (.scr ns), x1, some (.adr i), some (.lst R), x4, x5, some (.lst (ss.map .str)), some (.lst (fs.map .str)), x8, x9, x10, x11, x12] h) fun f σ h' => f = .nx ∧ ∃ s p R', σ = lwS ns x1 (some (.lst R)) x4 x5 i s (ss.map .str) (fs.map .str) R' x10 x11 x12 ∧ RL ss fs R' ∧ St (n + 1) i 0 s p R' h' := by
  match R, hR with
  | [r0, r1, r2], _ =>
    have rl3 : RL ss fs [r0, r1, r2] := ⟨pr, by simp⟩
    have rl0 : RL ss fs [] := ⟨fun r hr => (by cases hr), by simp⟩
    have p3 : plains 1 [r0, r1, r2] = true := plains_pr pr
    unfold plM
    walk_at "w"
    apply W3.asgT
    apply W2.idx
    apply W2.lstT
    apply W2.evcons
    apply W2.tup
    apply W2.evcons
    apply W2.mk0C rfl
    refine (S4.mks (O := O) [] ss fs h nf rl0 g).mono fun d h1 ⟨e1, e2⟩ => ?_
    subst e1 e2
    have g1 := g.sheet (R := []) rfl
    have ta := St.make (R := []) a g rfl
    generalize hH : h ++ [.ins 1 [(1, pgm []), (2, .adr (h.length + 1))]] ++ [.lst []] = H1 at g1 ta
    repeat walk_at "w"
    refine idx_at (by decide) (by simp) fun x hx => ?_
    cases hx
    repeat walk_at "w"
    refine idx_at (by decide) (by simp) fun x hx => ?_
    cases hx
    repeat walk_at "w"
    refine idx_at (by decide) (by simp) fun x hx => ?_
    cases hx
    walk_at "w"
    refine (S4.mks (O := O) [r0, r1, r2] ss fs H1 nf rl3 g1).mono fun d h2 ⟨e1, e2⟩ => ?_
    subst e1 e2
    have tb := ta.app2 p3
    have tc := St.make ta.a g1 p3
    generalize hH2 : H1 ++ [.ins 1 [(1, pgm [r0, r1, r2]), (2, .adr (H1.length + 1))]] ++ [.lst []] = H2 at tb tc
    repeat walk_at "w"
    refine (Dr.draw (O := O) n i H2 2 tb.a (by omega) (by decide) (by decide)).mono fun d h3 ⟨c, e, c0, c1, A⟩ => ?_
    subst e
    repeat walk_at "w"
    have hc : c = 0 ∨ c = 1 := by omega
    rcases hc with rfl | rfl
    · exact .eq rfl ⟨[.adr h.length, .lst []], _, rfl, rfl, rfl, Kn.nx (W3.nil ⟨rfl, _, _, _, rfl, rl0, tb.adv A⟩)⟩
    · exact .eq rfl ⟨[.adr H1.length, .lst [r0, r1, r2]], _, rfl, rfl, rfl, Kn.nx (W3.nil ⟨rfl, _, _, _, rfl, rl3, tc.adv A⟩)⟩
theorem plH_run {ns : List Int} {q : Nat} {x2 x3 x4 x5 x6 x7 x8 x9 x10 x11 x12 : Option D} {h : MH} (hq : q ≤ 63) (g : HG h) :
    W3 (execs O plH [some (.scr ns), some (.int q), x2, x3, x4, x5, x6, x7, x8, x9, x10, x11, x12] h) fun f σ h' => f = .nx ∧ ∃ (n i : Nat) (ss fs : List S) (R : List D), σ = [some (.scr ns), some (.int q), some (.adr i), some (.lst R), x4, x5, some (.lst (ss.map .str)), some (.lst (fs.map .str)), x8, x9, x10, x11, x12] ∧ NF ss fs ∧ R.length = 3 ∧ (∀ r ∈ R, PR ss fs r) ∧ AtH n i h' ∧ HG h' ∧ n ≤ 900 := by
  obtain ⟨s, e, Sr⟩ := Sn.src (O := O) ns q h hq
  have a1 : AtH 0 h.length (h ++ [s]) := ⟨s, get_last rfl, Sr⟩
  have g1 : HG (h ++ [s]) := by
    obtain ⟨u, v, w, rfl⟩ := Sr.eq
    exact g.push fun N H _ => fzs_flat rfl N H
  unfold plH
  repeat walk_at "w"
  refine W2.eq e ?_
  apply Kn.nx
  walk_at "env"
  repeat walk_at "w"
  refine (Dr.draw (O := O) 0 h.length _ 4 a1 (by decide) (by decide) (by decide)).mono fun d h2 ⟨v, e, v0, v1, A2⟩ => ?_
  subst e
  repeat walk_at "w"
  refine (Sn.names (O := O) _ _ h2 (1 + v) A2.at (by decide) (by omega) (by omega)).mono fun d h3 ⟨ss, e, l3, n3, A3⟩ => ?_
  subst e
  repeat walk_at "w"
  refine (Sn.names (O := O) _ _ h3 2 A3.at (by decide) (by decide) (by decide)).mono fun d h4 ⟨fs, e, l4, n4, A4⟩ => ?_
  subst e
  repeat walk_at "w"
  refine ⟨_, rfl, ?_⟩
  apply Kn.nx
  walk_at "env"
  repeat walk_at "w"
  have g4 : HG h4 := ((g1.adv A2).adv A3).adv A4
  refine (Sn.rows (O := O) _ _ h4 ss fs A4.at g4 (by decide) n3 n4).mono fun d h5 ⟨R, e, lR, pR, A5⟩ => ?_
  subst e
  apply Kn.nx
  walk_at "env"
  exact W3.nil ⟨rfl, _, _, ss, fs, R, rfl, ⟨n3, n4, by omega⟩, lR, pR, A5.at, g4.adv A5, by decide⟩
theorem law_run {ns : List Int} : W2 ((runD O 13 b_law [.scr ns] []).bind (fin true 0)) fun d _ => d = .bl true := by
  apply W2.run
  walk_at "env"
  unfold b_law
  apply W3.cons
  apply W3.for
  apply W2.rng1
  apply W2.bif
  apply W2.evcons
  apply W2.cst
  apply W2.evcons
  apply W2.bif
  apply W2.evcons
  apply W2.cst
  apply W2.evcons
  apply W2.bif
  apply W2.evcons
  apply W2.var rfl
  apply W2.evnil
  apply W2.lenScr
  apply W2.evnil
  apply W2.minI
  apply W2.evnil
  apply W2.maxI
  have hb : ∃ v : Int, 0 ≤ v ∧ v ≤ 6 ∧ (if (if ((ns.map D.int).length : Int) < 6 then ((ns.map D.int).length : Int) else 6) > 1 then (if ((ns.map D.int).length : Int) < 6 then ((ns.map D.int).length : Int) else 6) else 1) = v := ⟨_, by split <;> (try split) <;> omega, by split <;> (try split) <;> omega, rfl⟩
  obtain ⟨v, v0, v1, ev⟩ := hb
  rw [ev]
  refine ⟨v, rfl, by omega, by omega, ?_⟩
  refine W3.loop (fun j σ h1 => HG h1 ∧ ∃ x1 x2 x3 x4 x5 x6 x7 x8 x9 x10 x11 x12, σ = [some (.scr ns), x1, x2, x3, x4, x5, x6, x7, x8, x9, x10, x11, x12]) ⟨fun o ho => (by cases ho), _, _, _, _, _, _, _, _, _, _, _, _, rfl⟩ (fun j x σ h1 hx ⟨g, x1, x2, x3, x4, x5, x6, x7, x8, x9, x10, x11, x12, es⟩ => ?_) fun σ1 h1 ⟨g, x1, x2, x3, x4, x5, x6, x7, x8, x9, x10, x11, x12, es⟩ => ?_
  · subst es
    have hj : j < v.toNat ∧ x = .int (j : Nat) := by
      rw [List.getElem?_map] at hx
      obtain ⟨q, hq, rfl⟩ := Option.map_eq_some_iff.mp hx
      have hlt := (List.getElem?_eq_some_iff.mp hq).1
      rw [List.length_range] at hlt
      rw [List.getElem?_range hlt] at hq
      cases hq
      exact ⟨hlt, by rw [Int.zero_add]⟩
    obtain ⟨hj, rfl⟩ := hj
    apply W3.turnN
    walk_at "env"
    show W3 (execs O (plH ++ (plM ++ plT)) _ h1) _
    refine execs_app2 ((plH_run (O := O) (ns := ns) (q := j) (by omega) g).mono fun f σ h2 ⟨e, n, i, ss, fs, R, es, nf, lR, pR, a2, g2, hn⟩ => ⟨e, ?_⟩)
    subst es
    refine execs_app2 ((plM_run (O := O) nf lR pR a2 g2 hn).mono fun f σ h3 ⟨e, s, p, R', es, rl, t⟩ => ⟨e, ?_⟩)
    subst es
    refine (plT_run (O := O) nf rl t (by omega)).mono fun f σ h4 ⟨e, g4, y2, y3, y4, y5, y6, y7, y8, y9, y10, y11, y12, es⟩ => ?_
    subst e es
    exact ⟨g4, _, _, _, _, _, _, _, _, _, _, _, _, rfl⟩
  · subst es
    apply Kn.nx
    repeat walk_at "w"
    exact .eq (h := []) (by unfold fin; rw [if_pos rfl]; rfl) rfl
end
theorem main64 (ns : List Int) (_ : ns.length ≤ 63) : ∃ h, (orc MM.sys 40).call 16 [.scr ns] [] = some (.bl true, h) := by
  obtain ⟨d, h, e, rfl⟩ := law_run (O := orc SY (27 + 12)) (ns := ns)
  exact ⟨h, by rw [show (orc MM.sys 40).call 16 [.scr ns] [] = _ from law_eq 39 (.scr ns) []]; exact e⟩
end EV

set_option Elab.async false
set_option linter.all false
set_option maxRecDepth 100000
set_option maxHeartbeats 0
open PySem PySem.W PySem.Calls PyProof.Rows
theorem join64 (main : ∀ ns : List Int, ns.length ≤ 63 → ∃ h, (EV.orc EV.MM.sys 40).call 16 [.scr ns] [] = some (.bl true, h)) : PySem.Challenge.rw_sharedrows_k64_sheets_edited.Holds := by
  w_on; o_law
  refine HandSHeadRun.head_any (r := OpenLaw.row PySem.Challenge.rw_sharedrows_k64_sheets_edited) (q := view (OpenLaw.row PySem.Challenge.rw_sharedrows_k64_sheets_edited).prog [49]) (H := EV.hkR) (ob := EV.obR) (M := 60000) (loose := EV.looseR) (d := HandSHeadRun.topDef (OpenLaw.row PySem.Challenge.rw_sharedrows_k64_sheets_edited).prog 49) (kwd := []) EV.obR_eq
    (by kernel_rfl) (fun s => by kernel_rfl) EV.runR (by kernel_rfl) (by kernel_rfl) (by kernel_rfl) (by rfl) (by first | assumption | decide +kernel) (by decide +kernel) ⟨rfl, rfl, rfl, rfl, rfl, by decide +kernel⟩ ?hw ?hc
  case hw => w_witness2
  case hc => exact EV.law_of (l := PySem.Challenge.rw_sharedrows_k64_sheets_edited) (n := 63) (f := 16) rfl (by decide) (by kernel_rfl) ⟨⟨rfl, by decide, by decide⟩, rfl⟩ EV.fine_ EV.ok_all EV.bd_all ⟨_, rfl, by kernel_rfl, rfl⟩ main
set_option maxRecDepth 100000 in
set_option maxHeartbeats 8000000 in
theorem PySem.Challenge.cw_sharedrows_k64_sheets_edited_holds : PySem.Challenge.rw_sharedrows_k64_sheets_edited.Holds := by
  exact join64 EV.main64
