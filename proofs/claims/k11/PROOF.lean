import PyProof.Rows.All
import HandS.ForMost
import HandS.Wide
import HandS.ForExc
import HandS.Walk
import HandS.Flow
import HandS.Property
import HandS.IsInst
import HandS.CallSlots
import HandS.TupAny
import HandS.Conv
import HandS.Deep
import HandS.DictComp
import HandS.Style
import HandS.TupLe
import HandS.SortInts
import HandS.Small
import HandS.Text
import HandS.RaiseMore
import PyProof.Rows.SortShellAny
import HandS.More
import HandS.ReCall
import HandS.SetFor
import HandS.Finally
import HandS.Words
import HandS.HeadNt
import HandS.ExcField
import HandS.SlotsOwn
import PyProof.InstNe
import HandS.Zip
import HandS.Rev
import HandS.Head0
import HandS.Head1
import HandS.Head2
import HandS.HeadEnd
import HandS.HeadHook1
import HandS.HeadHook2
import HandS.ExcInit
import KE.KExcSuper
import KE.KSuper
import HandS.Set
import HandS.SetKeys
import PyProof.Rows.SetFrom
import HandS.Defaults
import HandS.HeadHook3
import PySem.Challenge.RW_anymanner_k11_sorts_made
import Wide.All
import OpenK.AllK
import Wide.FinOn
set_option Elab.async false
set_option linter.all false
set_option maxRecDepth 100000
/-! Mi1: values, the small language, its evaluator. -/
namespace Mi
open PySem L2

/-! ### values -/
inductive W where
  | non | bl (b : Bool) | int (i : Int) | str (s : Str)
  | tup (xs : List W) | lst (xs : List W)
  | dct (n : Bool) (ks vs : List W)
  | ins (c : Nat) (fs : List W)
  | exc (c : Nat) (fs : List W)
  | cell (i : Nat)
  | scr (ns : List Int)
deriving Inhabited
mutual
def wbeq : W → W → Bool
  | .non, .non => true
  | .bl a, .bl b => a == b
  | .int a, .int b => a == b
  | .str a, .str b => a == b
  | .tup a, .tup b => wbeqs a b
  | .lst a, .lst b => wbeqs a b
  | .dct n a c, .dct k b d => n == k && (wbeqs a b && wbeqs c d)
  | .ins i a, .ins j b => i == j && wbeqs a b
  | .exc i a, .exc j b => i == j && wbeqs a b
  | .cell a, .cell b => a == b
  | .scr a, .scr b => a == b
  | _, _ => false
def wbeqs : List W → List W → Bool
  | [], [] => true
  | x :: xs, y :: ys => wbeq x y && wbeqs xs ys
  | _, _ => false
end
mutual
theorem wbeq_eq : ∀ a b : W, wbeq a b = true ↔ a = b
  | .non, b => by cases b <;> simp [wbeq]
  | .bl _, b => by cases b <;> simp [wbeq]
  | .int _, b => by cases b <;> simp [wbeq]
  | .str _, b => by cases b <;> simp [wbeq]
  | .tup a, b => by cases b <;> simp [wbeq, wbeqs_eq a]
  | .lst a, b => by cases b <;> simp [wbeq, wbeqs_eq a]
  | .dct n a c, b => by cases b <;> simp [wbeq, wbeqs_eq a, wbeqs_eq c]
  | .ins i a, b => by cases b <;> simp [wbeq, wbeqs_eq a]
  | .exc i a, b => by cases b <;> simp [wbeq, wbeqs_eq a]
  | .cell _, b => by cases b <;> simp [wbeq]
  | .scr _, b => by cases b <;> simp [wbeq]
theorem wbeqs_eq : ∀ a b : List W, wbeqs a b = true ↔ a = b
  | [], b => by cases b <;> simp [wbeqs]
  | x :: xs, b => by cases b <;> simp [wbeqs, wbeq_eq x, wbeqs_eq xs]
end
instance : DecidableEq W := fun a b => decidable_of_iff _ (wbeq_eq a b)
/-- what a mutable object holds -/
inductive Ob where
  | lst (xs : List W) | dct (n : Bool) (ks vs : List W) | ins (c : Nat) (fs : List W)
deriving DecidableEq
def Ob.w : Ob → W
  | .lst xs => .lst xs | .dct n ks vs => .dct n ks vs | .ins c fs => .ins c fs
abbrev Mem := List Ob
inductive RV where
  | val (w : W) | new (o : Ob) | own (i : Nat)
inductive Sl where
  | no | val (w : W) | own (o : Ob)
abbrev En := List Sl

inductive Out (α : Type) where
  | ok (a : α) (m : Mem) | exc (x : W) (m : Mem) | stuck
def Out.bind {α β : Type} (r : Out α) (f : α → Mem → Out β) : Out β := match r with
  | .ok a m => f a m | .exc x m => .exc x m | .stuck => .stuck
/-- no exception is let out -/
def noX {α : Type} : Out α → Out α
  | .exc _ _ => .stuck | r => r
def lift {α : Type} (o : Option α) (m : Mem) : Out α := match o with | some a => .ok a m | none => .stuck
def esc : RV → Option W
  | .val w => some w | .new o => some o.w | .own _ => none
def rd (env : En) (m : Mem) : RV → Option W
  | .val (.cell i) => match m[i]? with | some o => some o.w | none => none
  | .val w => some w
  | .new o => some o.w
  | .own i => match env[i]? with | some (.own o) => some o.w | _ => none

/-! ### the language -/
inductive Bop where | add | sub | mul | fdiv | mod | pow
inductive Cop where | eq | ne | lt | le | gt | ge | isin | notin | is | isnot
inductive Blt where | len | int | max | min | str | repr | list | tuple | sorted | sum | lenset | abs | dict | min1
inductive Bm where | get | index | count | join | split | pop | append | reverse | clear | update | remove | values
inductive Ty where | int | bool | str | list | tuple | dict | cls (c : Nat)
inductive Tg where | n (i : Nat) | t (is : List Nat)

mutual
inductive E where
  | var (i : Nat) | int (z : Int) | str (s : Str) | bl (b : Bool) | non | glob (k : Nat)
  | bin (op : Bop) (a b : E) | neg (a : E)
  | cmp (op : Cop) (a b : E) | chain (o1 o2 : Cop) (a b c : E)
  | bool (and : Bool) (es : Es) | not (a : E) | ite (c a b : E)
  | tup (es : Es) | list (es : Es) | dict (n : Bool) (ps : Ps)
  | ix (a i : E) | slice (a : E) (lo hi : Es) | rev (a : E)
  | attr (a : E) (f : Nat)
  | call (f : Nat) (es : Es) | new (c : Nat) (es : Es) | newx (c : Nat) (es : Es)
  | meth (m : Nat) (a : E) (es : Es) | bm (k : Bm) (a : E) (es : Es)
  | blt (b : Blt) (es : Es) | isin (a : E) (ts : List Ty)
  | comp (tg : Tg) (own : List Nat) (it : It) (ifs : Es) (e : E)
  | dcomp (n : Bool) (tg : Tg) (own : List Nat) (it : It) (ifs : Es) (k v : E)
  | cell (e : E)
  | kin (neg : Bool) (a : E) (k : Nat)
inductive Es where
  | nil | cons (e : E) (es : Es)
inductive Ps where
  | nil | cons (k v : E) (ps : Ps)
inductive It where
  | e (a : E) | rng1 (a : E) | rng2 (a b : E) | rng3 (a b c : E) | enum (a : E) | zip (a b : E) | values (a : E) | rev (a : E)
end
def Es.isNil : Es → Bool
  | .nil => true | _ => false
mutual
inductive S where
  | set (i : Nat) (own : Bool) (e : E) | setT (is : List Nat) (e : E) | setP (is : List (Nat × Bool)) (es : Es)
  | setF (a : E) (f : Nat) (e : E) | setIx (a i e : E)
  | aug (i : Nat) (op : Bop) (e : E) | augF (a : E) (f : Nat) (op : Bop) (e : E)
  | expr (e : E) | mut (i : Nat) (k : Bm) (es : Es)
  | ret (e : E) | retN | raise (c : Nat) (es : Es)
  | ite (c : E) (a b : Ss) | for (tg : Tg) (it : It) (b : Ss) | while (c : E) (b : Ss)
  | pass | brk | cont
  | try (c n : Nat) (b h : Ss)
  | frz (i : Nat)
inductive Ss where
  | nil | cons (s : S) (ss : Ss)
end

/-- the program as data -/
structure Pg where
  fnm : Nat → Str          -- the defs' names at the top
  cnm : Nat → Str          -- the classes' names
  anm : Nat → Str          -- attributes and fields
  mnm : Nat → Str          -- methods
  gnm : Nat → Str          -- constants of the top
  fln : Nat → List Str     -- the fields of a class, in their order
  nms : Nat → List Str     -- a def's names by slot, parameters first
  inms : Nat → List Str    -- the same of a class's __init__
  glob : Nat → W
  dnm : Nat → Str          -- constants of the top that are dicts with text keys
  dct : Nat → List (Str × W)
  fld : Nat → Nat → Option Nat
  nfl : Nat → Nat
  prp : Nat → Nat → Option Nat
  mth : Nat → Nat → Option Nat
  sub : Nat → Nat → Bool
  exn : Nat → Bool          -- classes of exceptions with an __init__ of their own
  fn : Nat → Option (Nat × Nat × Ss)
  ini : Nat → Option (Nat × Nat × Ss)

/-! ### operations on values -/
mutual
/-- an item of a key that is a tuple -/
def leafK : Nat → W → Bool
  | 0, _ => false
  | n + 1, w => match w with
    | .int _ => true
    | .str _ => true
    | .tup xs => leafKs n xs
    | _ => false
def leafKs : Nat → List W → Bool
  | 0, _ => false
  | n + 1, [] => true
  | n + 1, x :: xs => leafK n x && leafKs n xs
end
/-- a key: an int or a text; in a dict of the other kind a tuple -/
def isKey (n : Bool) (k : W) : Bool := match n with
  | false => match k with | .int _ => true | .str _ => true | _ => false
  | true => match k with | .tup _ => leafK 60 k | _ => false
def dget (k : W) : List W → List W → Option W
  | w :: ks, v :: vs => if w = k then some v else dget k ks vs
  | _, _ => none
def dset (k : W) (v : W) : List W → List W → List W
  | w :: ks, u :: us => (if w = k then v else u) :: dset k v ks us
  | _, _ => []
def dput (k : W) (v : W) (ks vs : List W) : List W × List W := if ks.any (fun w => decide (w = k)) then (ks, dset k v ks vs) else (ks ++ [k], vs ++ [v])
def ddrop (k : W) : List W → List W → List W × List W
  | w :: ks, u :: us => if w = k then ddrop k ks us else ((w :: (ddrop k ks us).1), (u :: (ddrop k ks us).2))
  | _, _ => ([], [])
def dmerge (ps : List (W × W)) : List W × List W := ps.foldl (fun a p => dput p.1 p.2 a.1 a.2) ([], [])
mutual
def toD : W → Option PyData
  | .non => some .none
  | .bl b => some (.bool b)
  | .int i => some (.int i)
  | .str s => some (.str s)
  | .tup xs => match toDs xs with | some ds => some (.tuple ds) | none => none
  | .lst xs => match toDs xs with | some ds => some (.list ds) | none => none
  | .dct _ _ _ => none
  | .ins _ _ => none
  | .exc _ _ => none
  | .cell _ => none
  | .scr _ => none
def toDs : List W → Option (List PyData)
  | [] => some []
  | x :: xs => match toD x, toDs xs with | some d, some ds => some (d :: ds) | _, _ => none
end
def eqD (x y : W) : Option Bool := match toD x, toD y with
  | some d, some e => if SeqAt.shaped d && SeqAt.shaped e then some (PyData.eqv d e) else none
  | _, _ => none
def eqW : W → W → Option Bool
  | .int i, .int j => some (i == j)
  | .str a, .str b => some (a == b)
  | .int _, .str _ => some false
  | .str _, .int _ => some false
  | .bl a, .bl b => some (a == b)
  | .non, .non => some true
  | .lst xs, .lst ys => if xs.length = ys.length then eqD (.lst xs) (.lst ys) else some false
  | x, y => eqD x y
def isNon : W → Bool
  | .non => true | _ => false
def flatW : W → Bool
  | .non => true | .bl _ => true | .int _ => true | .str _ => true | _ => false
def eqF : W → W → Bool
  | .non, .non => true
  | .bl a, .bl b => a == b
  | .bl a, .int b => (if a then 1 else 0) == b
  | .int a, .bl b => a == (if b then 1 else 0)
  | .int a, .int b => a == b
  | .str a, .str b => a == b
  | _, _ => false
def inS (x : W) (ys : List W) : Option Bool :=
  if flatW x && ys.all flatW then some (ys.any fun y => eqF y x) else
    match toD x, toDs ys with
    | some d, some ds => if SeqAt.shaped d && SeqAt.shaped (.list ds) then some (ds.any fun z => PyData.eqv z d) else none
    | _, _ => none
def inW : W → W → Option Bool
  | .str a, .str b => some (!(Builtin.Str.occurrences b a 0 b.length 1).isEmpty)
  | x, .lst ys => inS x ys
  | x, .tup ys => inS x ys
  | x, .dct n ks vs => if isKey n x then some (dget x ks vs).isSome else none
  | _, _ => none
def strsW : List W → Option (List Str)
  | [] => some []
  | .str s :: xs => match strsW xs with | some ss => some (s :: ss) | none => none
  | _ :: _ => none
def strLt (a b : Str) : Bool := decide (a.cps.toList < b.cps.toList)
def lexLt : List Str → List Str → Bool
  | [], [] => false
  | [], _ :: _ => true
  | _ :: _, [] => false
  | x :: xs, y :: ys => if x = y then lexLt xs ys else strLt x y
/-- each entry of the one is one of the other -/
def dsub (js us : List W) : List W → List W → Bool
  | k :: ks, v :: vs => (match dget k js us with | some u => eqF v u | none => false) && dsub js us ks vs
  | _, _ => true
def eqDct (ks vs js us : List W) : Option Bool := if vs.all flatW && us.all flatW then some (decide (ks.length = js.length) && dsub js us ks vs) else none
def cmpV : Cop → W → W → Option Bool
  | .eq, .dct _ ks vs, .dct _ js us => eqDct ks vs js us
  | .ne, .dct _ ks vs, .dct _ js us => match eqDct ks vs js us with | some b => some (!b) | none => none
  | .eq, x, y => eqW x y
  | .ne, x, y => match eqW x y with | some b => some (!b) | none => none
  | .lt, .int i, .int j => some (decide (i < j))
  | .le, .int i, .int j => some (decide (i ≤ j))
  | .gt, .int i, .int j => some (decide (j < i))
  | .ge, .int i, .int j => some (decide (j ≤ i))
  | .lt, .str a, .str b => some (strLt a b)
  | .le, .str a, .str b => some (!strLt b a)
  | .gt, .str a, .str b => some (strLt b a)
  | .ge, .str a, .str b => some (!strLt a b)
  | .lt, .tup xs, .tup ys => match strsW xs, strsW ys with | some a, some b => some (lexLt a b) | _, _ => none
  | .ge, .tup xs, .tup ys => match strsW xs, strsW ys with | some a, some b => some (!lexLt a b) | _, _ => none
  | .isin, x, y => inW x y
  | .notin, x, y => match inW x y with | some b => some (!b) | none => none
  | .is, x, .non => some (isNon x)
  | .isnot, x, .non => some (!isNon x)
  | _, _, _ => none
def binV : Bop → W → W → Option RV
  | .add, .int i, .int j => some (.val (.int (i + j)))
  | .sub, .int i, .int j => some (.val (.int (i - j)))
  | .mul, .int i, .int j => if i.natAbs.log2 + j.natAbs.log2 < 1000000 then some (.val (.int (i * j))) else none
  | .fdiv, .int i, .int j => if 0 < j && decide (j.natAbs.log2 < 9000) then some (.val (.int (i / j))) else none
  | .mod, .int i, .int j => if 0 < j then some (.val (.int (i % j))) else none
  | .pow, .int i, .int j => if 0 ≤ j && decide ((Builtin.Int.intBits i : Int) * j ≤ 2 ^ 27) then some (.val (.int (i ^ j.toNat))) else none
  | .add, .str a, .str b => if a.length + b.length ≤ sizeLine then some (.val (.str (a ++ b))) else none
  | .add, .tup xs, .tup ys => if xs.length + ys.length ≤ sizeLine then some (.val (.tup (xs ++ ys))) else none
  | .add, .lst xs, .lst ys => if xs.length + ys.length ≤ sizeLine then some (.new (.lst (xs ++ ys))) else none
  | .mul, .lst xs, .int k => if -(2 ^ 63) ≤ k && decide (k < 2 ^ 63) && decide (xs.length * k.toNat ≤ sizeLine) then some (.new (.lst (List.replicate k.toNat xs).flatten)) else none
  | .mul, .str a, .int k => if 0 ≤ k && decide (k ≤ 1000) && decide (a.length ≤ 1000) then some (.val (.str (Txt.mul a k))) else none
  | _, _, _ => none
def ixV : W → W → Option W
  | .scr ns, .int i => match atI ns i with | some n => some (.int n) | none => none
  | .lst xs, .int i => atI xs i
  | .tup xs, .int i => atI xs i
  | .str z, .int i => match atI z.cps.toList i with | some c => if z.length ≤ sizeLine then some (.str ⟨#[c]⟩) else none | none => none
  | .dct n ks vs, k => if isKey n k then dget k ks vs else none
  | _, _ => none
def optInt : List W → Option (Option Int)
  | [] => some none
  | [.int i] => some (some i)
  | _ => none
def cutW (xs : List W) (lo hi : Option Int) : List W := (xs.drop (HT.sIx xs.length 0 lo)).take (HT.sIx xs.length xs.length hi - HT.sIx xs.length 0 lo)
def sliceV (u : W) (lo hi : Option Int) : Option RV := match u with
  | .lst xs => some (.new (.lst (cutW xs lo hi)))
  | .tup xs => some (.val (.tup (cutW xs lo hi)))
  | .str z => if z.length ≤ sizeLine then some (.val (.str (cutS z lo hi))) else none
  | _ => none
def intsW : List W → Option (List Int)
  | [] => some []
  | .int i :: xs => match intsW xs with | some ss => some (i :: ss) | none => none
  | _ :: _ => none
def strLe (a b : Str) : Bool := !strLt b a
def srtIn {α : Type} (le : α → α → Bool) (x : α) : List α → List α
  | [] => [x]
  | y :: ys => if le x y then x :: y :: ys else y :: srtIn le x ys
def srt {α : Type} (le : α → α → Bool) : List α → List α
  | [] => []
  | x :: xs => srtIn le x (srt le xs)
/-- the different ones -/
def stepW (σ : List W) (v : W) : List W := if σ.any (fun u => decide (u = v)) then σ else σ ++ [v]
def dedupW (xs : List W) : List W := xs.foldl stepW []
def signs (s : Str) : List W := s.cps.toList.map fun c => .str ⟨#[c]⟩
def bltV (deep : W → Option PyData) : Blt → List W → List W → Option RV
  | .len, [.scr ns], _ => some (.val (.int ns.length))
  | .len, [.lst xs], _ => some (.val (.int xs.length))
  | .len, [.tup xs], _ => some (.val (.int xs.length))
  | .len, [.str s], _ => if s.length ≤ sizeLine then some (.val (.int s.length)) else none
  | .len, [.dct _ ks _], _ => some (.val (.int ks.length))
  | .int, [.int i], _ => some (.val (.int i))
  | .int, [.bl b], _ => some (.val (.int (if b then 1 else 0)))
  | .int, [.str s], _ => if s.length ≤ 640 then match PySem.intText? s with | some n => some (.val (.int n)) | none => none else none
  | .max, [.int i, .int j], _ => some (.val (.int (if j > i then j else i)))
  | .min, [.int i, .int j], _ => some (.val (.int (if j < i then j else i)))
  | .str, [.str s], _ => some (.val (.str s))
  | .str, [.int i], _ => if i.natAbs.log2 < 1920 then some (.val (.str (toString i))) else none
  | .abs, [.int i], _ => some (.val (.int (if i < 0 then -i else i)))
  | .list, [.lst xs], _ => some (.new (.lst xs))
  | .list, [.tup xs], _ => some (.new (.lst xs))
  | .list, [.dct _ ks _], _ => some (.new (.lst ks))
  | .tuple, [.lst xs], _ => some (.val (.tup xs))
  | .tuple, [.tup xs], _ => some (.val (.tup xs))
  | .dict, [.dct n ks vs], _ => some (.new (.dct n ks vs))
  | .repr, [.bl b], _ => some (.val (.str (if b then "True" else "False")))
  | .repr, [.non], _ => some (.val (.str "None"))
  | .repr, [.int i], _ => if i.natAbs.log2 < 1920 then some (.val (.str (toString i))) else none
  | .repr, [.lst _], [x] => match deep x with | some d => if d.showable && decide (d.shown.length ≤ sizeLine) && decide (d.depth ≤ 60) then some (.val (.str d.shown)) else none | none => none
  | .repr, [.str s], _ => if (reprText s).length ≤ sizeLine then some (.val (.str (reprText s))) else none
  | .repr, [.dct _ _ _], [x] => match deep x with | some d => if d.showable && decide (d.shown.length ≤ sizeLine) && decide (d.depth ≤ 60) then some (.val (.str d.shown)) else none | none => none
  | .repr, [.tup _], [x] => match deep x with | some d => if d.showable && decide (d.shown.length ≤ sizeLine) && decide (d.depth ≤ 60) then some (.val (.str d.shown)) else none | none => none
  | .sorted, [.lst xs], _ => if xs.length < 64 then match strsW xs with
      | some ss => some (.new (.lst ((srt strLe ss).map .str)))
      | none => match intsW xs with
        | some ns => some (.new (.lst ((srt (fun a b => decide (a ≤ b)) ns).map .int)))
        | none => none
      else none
  | .sum, [.lst xs], _ => match intsW xs with | some ns => some (.val (.int ns.sum)) | none => none
  | .lenset, [.lst xs], _ => if xs.all (isKey false) && decide (xs.length + 1 < 4096) then some (.val (.int (dedupW xs).length)) else none
  | _, _, _ => none
/-- the methods that change nothing: the receiver's content, the arguments -/
def bmV : Bm → W → List W → Option RV
  | .get, .dct n ks vs, [k] => if isKey n k then some (.val ((dget k ks vs).getD .non)) else none
  | .get, .dct n ks vs, [k, d] => if isKey n k then some (.val ((dget k ks vs).getD d)) else none
  | .join, .str a, [.lst xs] => match strsW xs with
      | some ss => if (ss.map Str.length).sum + ss.length * a.length ≤ 16777216 then some (.val (.str (Txt.join a ss))) else none
      | none => none
  | .split, .str a, [] => if a.length + 2 ≤ sizeLine then some (.new (.lst ((Txt.words a).map .str))) else none
  | .index, .lst xs, [x] => match toD x, toDs xs with
      | some d, some ds => if SeqAt.shaped d && SeqAt.shaped (.list ds) then (match ds.findIdx? (fun z => PyData.eqv z d) with | some j => some (.val (.int (j : Nat))) | none => none) else none
      | _, _ => none
  | .count, .lst xs, [.int i] => match intsW xs with | some ns => some (.val (.int (ns.count i))) | none => none
  | _, _, _ => none
/-- the methods that change: what the object holds then, what they give -/
def mutV : Bm → Ob → List W → Option (Ob × W)
  | .append, .lst xs, [x] => if xs.length < sizeLine then some (.lst (xs ++ [x]), .non) else none
  | .pop, .lst xs, [] => match xs.getLast? with | some y => some (.lst xs.dropLast, y) | none => none
  | .reverse, .lst xs, [] => some (.lst xs.reverse, .non)
  | .clear, .lst _, [] => some (.lst [], .non)
  | .pop, .dct n ks vs, [k] => if isKey n k then (match dget k ks vs with | some v => some (.dct n (ddrop k ks vs).1 (ddrop k ks vs).2, v) | none => none) else none
  | .pop, .dct n ks vs, [k, d] => if isKey n k then (match dget k ks vs with | some v => some (.dct n (ddrop k ks vs).1 (ddrop k ks vs).2, v) | none => some (.dct n ks vs, d)) else none
  | _, _, _ => none
/-- o[i] = v -/
def setV : Ob → W → W → Option Ob
  | .lst xs, .int k, v => match ixN xs.length k with | some j => some (.lst (xs.set j v)) | none => none
  | .dct n ks vs, k, v => if isKey n k && decide (ks.length < sizeLine) then some (.dct n (dput k v ks vs).1 (dput k v ks vs).2) else none
  | _, _, _ => none
def setF (fs : List W) (k : Nat) (w : W) : Option (List W) := if k < fs.length then some (fs.set k w) else if k = fs.length then some (fs ++ [w]) else none
mutual
def deepD (m : Mem) : Nat → W → Option PyData
  | 0, _ => none
  | n + 1, w => match w with
    | .non => some .none
    | .bl b => some (.bool b)
    | .int i => some (.int i)
    | .str s => some (.str s)
    | .tup xs => match deepDs m n xs with | some ds => some (.tuple ds) | none => none
    | .lst xs => match deepDs m n xs with | some ds => some (.list ds) | none => none
    | .cell i => match m[i]? with
      | some (.lst xs) => match deepDs m n xs with | some ds => some (.list ds) | none => none
      | some (.dct false ks vs) => match deepDs m n ks, deepDs m n vs with | some a, some b => some (.dict (a.zip b)) | _, _ => none
      | _ => none
    | .dct false ks vs => match deepDs m n ks, deepDs m n vs with | some a, some b => some (.dict (a.zip b)) | _, _ => none
    | _ => none
def deepDs (m : Mem) : Nat → List W → Option (List PyData)
  | 0, _ => none
  | n + 1, [] => some []
  | n + 1, x :: xs => match deepD m n x, deepDs m n xs with | some d, some ds => some (d :: ds) | _, _ => none
end
def isTy (T : Pg) (u : W) : Ty → Bool
  | .int => match u with | .int _ => true | .bl _ => true | _ => false
  | .bool => match u with | .bl _ => true | _ => false
  | .str => match u with | .str _ => true | _ => false
  | .list => match u with | .lst _ => true | .scr _ => true | _ => false
  | .tuple => match u with | .tup _ => true | _ => false
  | .dict => match u with | .dct _ _ _ => true | _ => false
  | .cls c => match u with | .ins d _ => T.sub d c | .exc d _ => T.sub d c | _ => false
/-- which kinds of values isinstance is asked of -/
def isiB (T : Pg) : W → Bool
  | .exc _ _ => false | .cell _ => false | .ins c _ => (T.ini c).isSome | _ => true
def bindT (tg : Tg) (x : W) (env : En) : Option En := match tg with
  | .n i => if i < env.length then some (env.set i (.val x)) else none
  | .t is => match x with
    | .tup xs => if xs.length = is.length ∧ (∀ i ∈ is, i < env.length) then some ((is.zip xs).foldl (fun e p => e.set p.1 (.val p.2)) env) else none
    | _ => none
def wipeE (env : En) : List Nat → En
  | [] => env
  | v :: vs => (wipeE env vs).set v .no

/-! ### loops -/
/-- where the items come from: nowhere that changes, or the cell i that held o -/
abbrev Src := Option (Nat × Ob)
def okSrc (c : Src) (m : Mem) : Bool := match c with | none => true | some (i, o) => decide (m[i]? = some o)
def compL {α : Type} (f : W → Mem → Out (Option α)) (c : Src) : List W → Mem → Out (List α)
  | [], m => if okSrc c m then .ok [] m else .stuck
  | x :: xs, m => if okSrc c m then (f x m).bind fun y m1 => (compL f c xs m1).bind fun ys m2 => .ok (match y with | some y => y :: ys | none => ys) m2 else .stuck
inductive SR where
  | next (env : En) (m : Mem) | brk (env : En) (m : Mem) | cont (env : En) (m : Mem)
  | ret (r : RV) (m : Mem) | exc (x : W) (env : En) (m : Mem) | stuck
def SR.seq (r : SR) (f : En → Mem → SR) : SR := match r with
  | .next env m => f env m | r => r
def toS {α : Type} (env : En) (r : Out α) (f : α → Mem → SR) : SR := match r with
  | .ok a m => f a m | .exc x m => .exc x env m | .stuck => .stuck
def forL (f : W → En → Mem → SR) (c : Src) : List W → En → Mem → SR
  | [], env, m => if okSrc c m then .next env m else .stuck
  | x :: xs, env, m => if okSrc c m then (match f x env m with
    | .next env' m' => forL f c xs env' m'
    | .cont env' m' => forL f c xs env' m'
    | .brk env' m' => .next env' m'
    | r => r) else .stuck
def whileL (c : En → Mem → Out Bool) (f : En → Mem → SR) : Nat → En → Mem → SR
  | 0, _, _ => .stuck
  | n + 1, env, m => toS env (c env m) fun b m1 => match b with
    | false => .next env m1
    | true => match f env m1 with
      | .next env' m' => whileL c f n env' m'
      | .cont env' m' => whileL c f n env' m'
      | .brk env' m' => .next env' m'
      | r => r
structure CF where
  call : Nat → List W → Mem → Out RV
  new : Nat → List W → Mem → Out Ob

def toB (w : W) (m : Mem) : Out Bool := match w with | .bl b => .ok b m | _ => .stuck
def boolRV (o : Option Bool) : Option RV := match o with | some b => some (.val (.bl b)) | none => none
/-- ids of the special methods -/
abbrev mEq : Nat := 1
abbrev mAdd : Nat := 2
abbrev mMul : Nat := 3
abbrev mLe : Nat := 4
abbrev mIn : Nat := 5
abbrev mLen : Nat := 6
def Bop.m : Bop → Nat
  | .add => mAdd | .mul => mMul | _ => 0
def Bop.own : Bop → Bool
  | .add => true | .mul => true | _ => false
def callM (T : Pg) (cf : CF) (c mid : Nat) (ws : List W) (m : Mem) : Out RV := match T.mth c mid with
  | some f => cf.call f ws m
  | none => .stuck
def escs : List RV → Option (List W)
  | [] => some []
  | r :: rs => match esc r, escs rs with | some w, some ws => some (w :: ws) | _, _ => none
def binG (T : Pg) (cf : CF) (env : En) (op : Bop) (x y : RV) (m : Mem) : Out RV :=
  match rd env m x, rd env m y with
  | some u, some v => match u, v with
    | .ins c _, .ins d _ => if c = d ∧ op.own = true then (match esc x, esc y with
      | some a, some b => callM T cf c op.m [a, b] m
      | _, _ => .stuck) else .stuck
    | u, v => lift (binV op u v) m
  | _, _ => .stuck
def notRV : RV → Option RV
  | .val (.bl b) => some (.val (.bl (!b)))
  | _ => none
/-- the outcome of a bool -/
def asB : RV → Mem → Out RV
  | .val (.bl b), m => .ok (.val (.bl b)) m
  | _, _ => .stuck
/-- the outcome of a test by __eq__, turned -/
def asNB : RV → Mem → Out RV
  | .val (.bl b), m => .ok (.val (.bl (!b))) m
  | _, _ => .stuck
/-- a value of a built-in type -/
def plainW : W → Bool
  | .ins _ _ => false | .exc _ _ => false | .cell _ => false | _ => true
def cmpG (T : Pg) (cf : CF) (env : En) (op : Cop) (x y : RV) (m : Mem) : Out RV :=
  match rd env m x, rd env m y with
  | some u, some v => match op, u, v with
    | .eq, .ins c _, .ins d _ => if (T.ini d).isSome = true then (match esc x, esc y with
      | some a, some b => (callM T cf c mEq [a, b] m).bind asB
      | _, _ => .stuck) else .stuck
    | .le, .ins c _, .ins d _ => if (T.ini d).isSome = true then (match esc x, esc y with
      | some a, some b => (callM T cf c mLe [a, b] m).bind asB
      | _, _ => .stuck) else .stuck
    | .ne, .ins c _, .ins d _ => if (T.ini d).isSome = true then (match esc x, esc y with
      | some a, some b => (callM T cf c mEq [a, b] m).bind asNB
      | _, _ => .stuck) else .stuck
    | .isin, _, .ins c _ => (match esc x, esc y with
      | some a, some b => (callM T cf c mIn [b, a] m).bind asB
      | _, _ => .stuck)
    | .eq, .ins c _, v => if plainW v = true then (match esc x, esc y with
      | some a, some b => (callM T cf c mEq [a, b] m).bind asB
      | _, _ => .stuck) else .stuck
    | .ne, .ins c _, v => if plainW v = true then (match esc x, esc y with
      | some a, some b => (callM T cf c mEq [a, b] m).bind asNB
      | _, _ => .stuck) else .stuck
    | op, u, v => lift (boolRV (cmpV op u v)) m
  | _, _ => .stuck
def attrG (T : Pg) (cf : CF) (env : En) (x : RV) (f : Nat) (m : Mem) : Out RV :=
  match rd env m x with
  | some (.exc c fs) => if T.exn c = true then (match T.fld c f with | some k => (match fs[k]? with | some w => .ok (.val w) m | none => .stuck) | none => .stuck) else .stuck
  | some (.ins c fs) => if (T.ini c).isSome = true then (match T.prp c f with
    | some g => (match esc x with | some a => noX (cf.call g [a] m) | none => .stuck)
    | none => (match T.fld c f with | some k => (match fs[k]? with | some w => .ok (.val w) m | none => .stuck) | none => .stuck)) else .stuck
  | _ => .stuck
def methF (T : Pg) (env : En) (mid : Nat) (x : RV) (m : Mem) : Option (W × Nat) :=
  match rd env m x with
  | some (.ins c _) => (match esc x, T.mth c mid with | some a, some f => some (a, f) | _, _ => none)
  | _ => none
/-- the types that have methods -/
inductive Tn where | list | tuple | str | dict
deriving DecidableEq
def tyOf : W → Option Tn
  | .lst _ => some .list | .tup _ => some .tuple | .str _ => some .str | .dct _ _ _ => some .dict | _ => none
def bmHas : Bm → Tn → Bool
  | .get, .dict => true | .pop, .dict => true | .pop, .list => true
  | .index, .list => true | .count, .list => true | .join, .str => true | .split, .str => true
  | .append, .list => true | .reverse, .list => true | .clear, .list => true
  | _, _ => false
/-- the receiver's type, where it has the method -/
def bmT (env : En) (k : Bm) (x : RV) (m : Mem) : Option Tn := match rd env m x with
  | some u => (match tyOf u with | some t => if bmHas k t = true then some t else none | none => none)
  | none => none
def bmG (env : En) (k : Bm) (t : Tn) (x : RV) (ws : List W) (m : Mem) : Out RV :=
  match rd env m x with
  | some u => if tyOf u = some t then (match bmV k u ws with
    | some r => .ok r m
    | none => match x with
      | .val (.cell i) => (match m[i]? with
        | some o => (match mutV k o ws with | some p => .ok (.val p.2) (m.set i p.1) | none => .stuck)
        | none => .stuck)
      | _ => .stuck) else .stuck
  | none => .stuck
def reads (env : En) (m : Mem) : List RV → Option (List W)
  | [] => some []
  | r :: rs => match rd env m r, reads env m rs with | some w, some ws => some (w :: ws) | _, _ => none
def deepR (m : Mem) : RV → Option W
  | .val w => some w | .new o => some o.w | .own _ => none
def deepRs (m : Mem) : List RV → List W
  | [] => []
  | r :: rs => match deepR m r with | some w => w :: deepRs m rs | none => deepRs m rs
/-- the outcome of a len -/
def lenB : RV → Mem → Out RV
  | .val (.int k), m => if 0 ≤ k ∧ k < 2 ^ 62 then .ok (.val (.int k)) m else .stuck
  | _, _ => .stuck
def bltG (T : Pg) (cf : CF) (env : En) (b : Blt) (rs : List RV) (m : Mem) : Out RV :=
  match reads env m rs with
  | some us => match b, rs, us with
    | .len, [x], [.ins c _] => (match esc x with | some a => (callM T cf c mLen [a] m).bind lenB | none => .stuck)
    | b, rs, us => lift (bltV (deepD m 200) b us (deepRs m rs)) m
  | none => .stuck

/-- what a for walks -/
def iterV : W → Option (List W)
  | .lst xs => some xs
  | .tup xs => some xs
  | .str s => some (signs s)
  | .dct _ ks _ => some ks
  | _ => none
def small62 (i : Int) : Bool := decide (-(2 ^ 62) ≤ i) && decide (i < 2 ^ 62)
def rngL (lo hi : Int) : List W := (List.range (hi - lo).toNat).map fun (k : Nat) => .int (lo + k)
def rngC (lo : Int) (c : Int) (n : Nat) : List W := (List.range n).map fun (k : Nat) => .int (lo + (k : Nat) * c)
def enumL : Nat → List W → List W
  | _, [] => []
  | i, x :: xs => .tup [.int i, x] :: enumL (i + 1) xs
def zipL : List W → List W → List W
  | x :: xs, y :: ys => .tup [x, y] :: zipL xs ys
  | _, _ => []

/-! ### the evaluator -/
mutual
def evE (T : Pg) (cf : CF) (env : En) : E → Mem → Out RV
  | .var i, m => match env[i]? with
    | some (.val w) => .ok (.val w) m
    | some (.own _) => .ok (.own i) m
    | _ => .stuck
  | .int z, m => .ok (.val (.int z)) m
  | .str s, m => .ok (.val (.str s)) m
  | .bl b, m => .ok (.val (.bl b)) m
  | .non, m => .ok (.val .non) m
  | .glob k, m => .ok (.val (T.glob k)) m
  | .bin op a b, m => (evE T cf env a m).bind fun x m1 => (evE T cf env b m1).bind fun y m2 => binG T cf env op x y m2
  | .neg a, m => (evE T cf env a m).bind fun x m1 => match x with | .val (.int i) => .ok (.val (.int (-i))) m1 | _ => .stuck
  | .cmp op a b, m => (evE T cf env a m).bind fun x m1 => (evE T cf env b m1).bind fun y m2 => cmpG T cf env op x y m2
  | .chain o1 o2 a b c, m => (evE T cf env a m).bind fun x m1 => (evE T cf env b m1).bind fun y m2 =>
      (cmpG T cf env o1 x y m2).bind fun r m3 => match r with
        | .val (.bl true) => (evE T cf env c m3).bind fun z m4 => cmpG T cf env o2 y z m4
        | .val (.bl false) => .ok (.val (.bl false)) m3
        | _ => .stuck
  | .bool k es, m => evB T cf env k es m
  | .not a, m => (evE T cf env a m).bind fun x m1 => match x with | .val (.bl b) => .ok (.val (.bl (!b))) m1 | _ => .stuck
  | .ite c a b, m => (evE T cf env c m).bind fun x m1 => match x with
      | .val (.bl true) => evE T cf env a m1
      | .val (.bl false) => evE T cf env b m1
      | _ => .stuck
  | .tup es, m => (evWs T cf env es m).bind fun ws m1 => if ws.length ≤ sizeLine then .ok (.val (.tup ws)) m1 else .stuck
  | .list es, m => (evWs T cf env es m).bind fun ws m1 => if ws.length ≤ sizeLine then .ok (.new (.lst ws)) m1 else .stuck
  | .dict n ps, m => (evKs T cf env ps m).bind fun ps m1 => if ps.all (fun p => isKey n p.1) && decide (ps.length ≤ 15) then .ok (.new (.dct n (dmerge ps).1 (dmerge ps).2)) m1 else .stuck
  | .ix a i, m => (evE T cf env a m).bind fun x m1 => (evE T cf env i m1).bind fun y m2 =>
      match rd env m2 x, esc y with
      | some u, some k => (match ixV u k with | some w => .ok (.val w) m2 | none => .stuck)
      | _, _ => .stuck
  | .slice a lo hi, m => (evE T cf env a m).bind fun x m1 => (evWs T cf env lo m1).bind fun l m2 => match optInt l with
      | some lo => (evWs T cf env hi m2).bind fun h m3 => (match optInt h with
        | some hi => (match rd env m3 x with
          | some u => lift (sliceV u lo hi) m3
          | none => .stuck)
        | none => .stuck)
      | none => .stuck
  | .rev a, m => (evE T cf env a m).bind fun x m1 => match rd env m1 x with
      | some (.lst xs) => .ok (.new (.lst xs.reverse)) m1
      | _ => .stuck
  | .attr a f, m => (evE T cf env a m).bind fun x m1 => attrG T cf env x f m1
  | .call f es, m => (evWs T cf env es m).bind fun ws m1 => cf.call f ws m1
  | .new c es, m => (evWs T cf env es m).bind fun ws m1 => (cf.new c ws m1).bind fun o m2 => .ok (.new o) m2
  | .newx _ _, _ => .stuck
  | .meth k a es, m => (evE T cf env a m).bind fun x m1 => match methF T env k x m1 with
      | some p => (evWs T cf env es m1).bind fun ws m2 => cf.call p.2 (p.1 :: ws) m2
      | none => .stuck
  | .bm k a es, m => (evE T cf env a m).bind fun x m1 => match bmT env k x m1 with
      | some t => (evWs T cf env es m1).bind fun ws m2 => bmG env k t x ws m2
      | none => .stuck
  | .blt b es, m => (evRs T cf env es m).bind fun rs m1 => bltG T cf env b rs m1
  | .isin a ts, m => (evE T cf env a m).bind fun x m1 => match rd env m1 x with
      | some u => if isiB T u = true then .ok (.val (.bl (ts.any (isTy T u)))) m1 else .stuck
      | none => .stuck
  | .comp tg own it ifs e, m => (evI T cf env it m).bind fun xs m1 => if xs.1.length ≤ sizeLine then
      (compL (fun x m => noX (match bindT tg x (wipeE env own) with
        | some env' => (evIf T cf env' ifs m).bind fun b m1 => match b with
          | true => (evE T cf env' e m1).bind fun r m2 => (match esc r with | some w => .ok (some w) m2 | none => .stuck)
          | false => .ok none m1
        | none => .stuck)) xs.2 xs.1 m1).bind fun ws m2 => .ok (.new (.lst ws)) m2 else .stuck
  | .dcomp n tg own it ifs k v, m => (evI T cf env it m).bind fun xs m1 => if xs.1.length ≤ sizeLine ∧ n = false then
      (compL (fun x m => noX (match bindT tg x (wipeE env own) with
        | some env' => (evIf T cf env' ifs m).bind fun b m1 => match b with
          | true => (evE T cf env' k m1).bind fun r m2 => (match esc r with
            | some w => if isKey false w = true then (evE T cf env' v m2).bind fun r2 m3 => (match esc r2 with | some w2 => .ok (some (w, w2)) m3 | none => .stuck) else .stuck
            | none => .stuck)
          | false => .ok none m1
        | none => .stuck)) xs.2 xs.1 m1).bind fun ps m2 => .ok (.new (.dct false (dmerge ps).1 (dmerge ps).2)) m2 else .stuck
  | .kin neg a k, m => (evE T cf env a m).bind fun x m1 => match x with
      | .val (.str s) => .ok (.val (.bl (if neg then !(T.dct k).any (fun p => decide (p.1 = s)) else (T.dct k).any (fun p => decide (p.1 = s))))) m1
      | _ => .stuck
  | .cell e, m => (evE T cf env e m).bind fun x m1 => match x with
      | .new o => .ok (.val (.cell m1.length)) (m1 ++ [o])
      | _ => .stuck
def evB (T : Pg) (cf : CF) (env : En) (k : Bool) : Es → Mem → Out RV
  | .nil, _ => .stuck
  | .cons a es, m => (evE T cf env a m).bind fun x m1 => match es.isNil with
      | true => .ok x m1
      | false => match x with
        | .val (.bl b) => if b = k then evB T cf env k es m1 else .ok (.val (.bl b)) m1
        | _ => .stuck
def evWs (T : Pg) (cf : CF) (env : En) : Es → Mem → Out (List W)
  | .nil, m => .ok [] m
  | .cons a es, m => (evE T cf env a m).bind fun x m1 => match esc x with
      | some w => (evWs T cf env es m1).bind fun ws m2 => .ok (w :: ws) m2
      | none => .stuck
def evRs (T : Pg) (cf : CF) (env : En) : Es → Mem → Out (List RV)
  | .nil, m => .ok [] m
  | .cons a es, m => (evE T cf env a m).bind fun x m1 => (evRs T cf env es m1).bind fun ws m2 => .ok (x :: ws) m2
def evKs (T : Pg) (cf : CF) (env : En) : Ps → Mem → Out (List (W × W))
  | .nil, m => .ok [] m
  | .cons k v ps, m => (evE T cf env k m).bind fun x m1 => (evE T cf env v m1).bind fun y m2 =>
      (evKs T cf env ps m2).bind fun p m3 => match esc x, esc y with
        | some a, some b => .ok ((a, b) :: p) m3
        | _, _ => .stuck
def evIf (T : Pg) (cf : CF) (env : En) : Es → Mem → Out Bool
  | .nil, m => .ok true m
  | .cons a es, m => (evE T cf env a m).bind fun x m1 => match x with
      | .val (.bl true) => evIf T cf env es m1
      | .val (.bl false) => .ok false m1
      | _ => .stuck
def evI (T : Pg) (cf : CF) (env : En) : It → Mem → Out (List W × Src)
  | .e a, m => (evE T cf env a m).bind fun x m1 => match x with
      | .val (.cell i) => (match m1[i]? with | some (.lst xs) => .ok (xs, some (i, .lst xs)) m1 | _ => .stuck)
      | x => (match esc x with | some w => (match iterV w with | some xs => .ok (xs, none) m1 | none => .stuck) | none => .stuck)
  | .rng1 a, m => (evE T cf env a m).bind fun x m1 => match x with
      | .val (.int n) => if small62 n then .ok (rngL 0 n, none) m1 else .stuck
      | _ => .stuck
  | .rng2 a b, m => (evE T cf env a m).bind fun x m1 => (evE T cf env b m1).bind fun y m2 => match x, y with
      | .val (.int i), .val (.int j) => if small62 i && small62 j then .ok (rngL i j, none) m2 else .stuck
      | _, _ => .stuck
  | .rng3 a b c, m => (evE T cf env a m).bind fun x m1 => (evE T cf env b m1).bind fun y m2 => (evE T cf env c m2).bind fun z m3 => match x, y, z with
      | .val (.int i), .val (.int j), .val (.int k) => if decide (k ≠ 0) && decide (k.natAbs < 1073741824) && Builtin.Range.small i j k then .ok (rngC i k (Builtin.Range.rangeSize i j k).toNat, none) m3 else .stuck
      | _, _, _ => .stuck
  | .enum a, m => (evE T cf env a m).bind fun x m1 => match esc x with
      | some (.lst xs) => .ok (enumL 0 xs, none) m1
      | _ => .stuck
  | .zip a b, m => (evE T cf env a m).bind fun x m1 => (match esc x with
      | some u => (evE T cf env b m1).bind fun y m2 => match u, esc y with
        | .lst xs, some (.lst ys) => .ok (zipL xs ys, none) m2
        | .tup xs, some (.tup ys) => .ok (zipL xs ys, none) m2
        | _, _ => .stuck
      | none => .stuck)
  | .values a, m => (evE T cf env a m).bind fun x m1 => match esc x with
      | some (.dct _ _ vs) => .ok (vs, none) m1
      | _ => .stuck
  | .rev a, m => (evE T cf env a m).bind fun x m1 => match esc x with
      | some (.lst xs) => .ok (xs.reverse, none) m1
      | _ => .stuck
end

def setOwn (env : En) (i : Nat) (own : Bool) (r : RV) : Option En :=
  if i < env.length then
    if own then match r with | .new (.ins _ _) => none | .new o => some (env.set i (.own o)) | _ => none
    else match esc r with | some w => some (env.set i (.val w)) | none => none
  else none
def setOwns (env : En) : List (Nat × Bool) → List RV → Option En
  | [], [] => some env
  | (i, k) :: is, r :: rs => match setOwn env i k r with | some e => setOwns e is rs | none => none
  | _, _ => none
def setFld (T : Pg) (env : En) (x : RV) (f : Nat) (w : W) (m : Mem) : SR := match x with
  | .own i => match env[i]? with
    | some (.own (.ins c fs)) => if (T.ini c).isSome = true then (match T.fld c f with
      | some k => (match setF fs k w with | some fs' => .next (env.set i (.own (.ins c fs'))) m | none => .stuck)
      | none => .stuck) else .stuck
    | _ => .stuck
  | .val (.cell i) => match m[i]? with
    | some (.ins c fs) => if (T.ini c).isSome = true then (match T.fld c f with
      | some k => (match setF fs k w with | some fs' => .next env (m.set i (.ins c fs')) | none => .stuck)
      | none => .stuck) else .stuck
    | _ => .stuck
  | _ => .stuck
/-- a field as it stands -/
def fldR (T : Pg) (env : En) (x : RV) (f : Nat) (m : Mem) : Option W := match rd env m x with
  | some (.ins c fs) => if (T.ini c).isSome = true then (match T.fld c f with | some k => fs[k]? | none => none) else none
  | _ => none
def mutOk (k : Bm) (o : Ob) : Bool := match tyOf o.w with | some t => bmHas k t | none => false
def setItm (env : En) (x : RV) (k w : W) (m : Mem) : SR := match x with
  | .own i => match env[i]? with
    | some (.own o) => (match setV o k w with | some o' => .next (env.set i (.own o')) m | none => .stuck)
    | _ => .stuck
  | .val (.cell i) => match m[i]? with
    | some o => (match setV o k w with | some o' => .next env (m.set i o') | none => .stuck)
    | _ => .stuck
  | _ => .stuck
def retV (env : En) (r : RV) (m : Mem) : SR := match r with
  | .own i => match env[i]? with | some (.own o) => .ret (.new o) m | _ => .stuck
  | r => .ret r m
/-- the clause keeps the exception: j = n -/
def catchJ : Ss → Nat → Option Nat
  | .cons (.set j false (.var i)) .nil, n => if i = n then some j else none
  | _, _ => none
mutual
def evS (T : Pg) (cf : CF) : S → En → Mem → SR
  | .set i own e, env, m => toS env (evE T cf env e m) fun r m1 => match setOwn env i own r with | some env' => .next env' m1 | none => .stuck
  | .setT is e, env, m => toS env (evE T cf env e m) fun r m1 => match esc r with
      | some w => (match bindT (.t is) w env with | some env' => .next env' m1 | none => .stuck)
      | none => .stuck
  | .setP is es, env, m => toS env (evRs T cf env es m) fun rs m1 => match setOwns env is rs with | some env' => .next env' m1 | none => .stuck
  | .setF a f e, env, m => toS env (evE T cf env e m) fun r m1 => match esc r with
      | some w => toS env (evE T cf env a m1) fun x m2 => setFld T env x f w m2
      | none => .stuck
  | .setIx a i e, env, m => toS env (evE T cf env e m) fun r m1 => match esc r with
      | some w => toS env (evE T cf env a m1) fun x m2 => toS env (evE T cf env i m2) fun y m3 => match esc y with
        | some k => setItm env x k w m3
        | none => .stuck
      | none => .stuck
  | .aug i op e, env, m => match env[i]? with
      | some (.val w) => toS env (evE T cf env e m) fun r m1 => match r with
        | .val (.int j) => (match w, binV op w (.int j) with | .int _, some (.val v) => .next (env.set i (.val v)) m1 | _, _ => .stuck)
        | _ => .stuck
      | _ => .stuck
  | .augF a f op e, env, m => match e with
      | .int j => toS env (evE T cf env a m) fun x m1 => match fldR T env x f m1 with
        | some (.int i) => (match binV op (.int i) (.int j) with | some (.val v) => setFld T env x f v m1 | _ => .stuck)
        | _ => .stuck
      | _ => .stuck
  | .expr e, env, m => toS env (evE T cf env e m) fun _ m1 => .next env m1
  | .mut i k es, env, m => match env[i]? with
      | some (.own o) => if mutOk k o = true then toS env (evWs T cf env es m) fun ws m1 => (match mutV k o ws with | some p => .next (env.set i (.own p.1)) m1 | none => .stuck) else .stuck
      | _ => .stuck
  | .ret e, env, m => toS env (evE T cf env e m) fun r m1 => retV env r m1
  | .retN, _, m => .ret (.val .non) m
  | .raise c es, env, m => if T.exn c = true then toS env (evWs T cf env es m) fun ws m1 => if ws.length = (T.fln c).length then .exc (.exc c ws) env m1 else .stuck else .stuck
  | .ite c a b, env, m => toS env (evE T cf env c m) fun r m1 => match r with
      | .val (.bl true) => evSs T cf a env m1
      | .val (.bl false) => evSs T cf b env m1
      | _ => .stuck
  | .for tg it b, env, m => toS env (evI T cf env it m) fun xs m1 =>
      forL (fun x env m => match bindT tg x env with | some env' => evSs T cf b env' m | none => .stuck) xs.2 xs.1 env m1
  | .while c b, env, m => whileL (fun env m => (evE T cf env c m).bind fun r m1 => match r with | .val (.bl k) => .ok k m1 | _ => .stuck) (fun env m => evSs T cf b env m) 1000000 env m
  | .pass, env, m => .next env m
  | .brk, env, m => .brk env m
  | .cont, env, m => .cont env m
  | .try c n b h, env, m => if T.exn c = true then match evSs T cf b env m with
      | .exc (.exc d ws) env' m' => if T.exn d = true then (if T.sub d c = true then (match catchJ h n with
          | some j => if n ≠ j then .next ((env'.set j (.val (.exc d ws))).set n .no) m' else .stuck
          | none => .stuck) else .exc (.exc d ws) env' m') else .stuck
      | .exc _ _ _ => .stuck
      | r => r
      else .stuck
  | .frz i, env, m => match env[i]? with
      | some (.own o) => .next (env.set i (.val o.w)) m
      | some (.val _) => .next env m
      | _ => .stuck
def evSs (T : Pg) (cf : CF) : Ss → En → Mem → SR
  | .nil, env, m => .next env m
  | .cons s ss, env, m => (evS T cf s env m).seq fun env' m' => evSs T cf ss env' m'
end

def outOf : SR → Out RV
  | .next _ m => .ok (.val .non) m
  | .ret r m => .ok r m
  | .exc x _ m => .exc x m
  | _ => .stuck
def iniOf : SR → Out Ob
  | .next env m => match (env[0]? : Option Sl) with | some (.own (.ins c fs)) => .ok (.ins c fs) m | _ => .stuck
  | .exc x _ m => .exc x m
  | _ => .stuck
def env0 (n : Nat) (sl : List Sl) : En := sl ++ List.replicate (n - sl.length) .no
def cfN (T : Pg) : Nat → CF
  | 0 => ⟨fun _ _ _ => .stuck, fun _ _ _ => .stuck⟩
  | n + 1 => ⟨fun f ws m => match T.fn f with
      | some (np, ns, b) => if ws.length = np then outOf (evSs T (cfN T n) b (env0 ns (ws.map .val)) m) else .stuck
      | none => .stuck,
    fun c ws m => match T.ini c with
      | some (np, ns, b) => if ws.length + 1 = np then iniOf (evSs T (cfN T n) b (env0 ns (.own (.ins c []) :: ws.map .val)) m) else .stuck
      | none => .stuck⟩
end Mi

set_option Elab.async false
set_option linter.all false
set_option maxRecDepth 100000
set_option maxHeartbeats 1000000
/-! Mi2: what the evaluator's values stand for. -/
namespace Mi
open PySem PySem.Spec L2

/-- the program's names and places -/
structure Tb where
  T : Pg
  P : Program
  w : World
  K : PySem.W.Frag
  mg : Str → Option Value
  base : Heap
  cA : Nat → Addr
  fA : Nat → Addr
  iA : Nat → Addr
  slf : Addr := 0

def kW : Key → W
  | .inl i => .int i
  | .inr s => .str s
/-- an exception object of the class at C, its own dict at dx -/
def excHO (C dx a : Addr) : HO := .ext fun h => ∃ (oe : Obj) (vs : Array Value), h.get? a = some oe ∧ Zc (.ref C) (some dx) oe ∧ oe.data = .fields vs

mutual
/-- the value w stands at v; G: what never changes; ρ: where the cells stand -/
def VR (B : Tb) (G : Hp) (ρ : List Addr) : W → V → Prop
  | .non, v => v = .non
  | .bl b, v => v = .bl b
  | .int i, v => v = .int i
  | .str s, v => v = .str s
  | .tup xs, v => ∃ a vs, v = .ref a ∧ SqT B.K G a vs ∧ VRs B G ρ xs vs
  | .lst xs, v => ∃ a vs, v = .ref a ∧ G a = some (.lst vs) ∧ VRs B G ρ xs vs
  | .dct n ks us, v => ∃ a kvs, v = .ref a ∧ n = false ∧ Rd G a (.dK kvs) ∧ ks = kvs.map (fun p => kW p.1) ∧ VRs B G ρ us (kvs.map (·.2))
  | .ins c fs, v => ∃ a dx vs, v = .ref a ∧ G a = some (.ins (B.cA c) dx ((B.T.fln c).zip vs)) ∧ fs.length ≤ (B.T.fln c).length ∧ VRs B G ρ fs vs
  | .exc c fs, v => ∃ a dx vs, v = .ref a ∧ G a = some (excHO (B.cA c) dx a) ∧ G dx = some (.xd ((B.T.fln c).zip vs)) ∧ fs.length ≤ (B.T.fln c).length ∧ VRs B G ρ fs vs
  | .cell i, v => ∃ a, ρ[i]? = some a ∧ v = .ref a
  | .scr ns, v => ∃ a, v = .ref a ∧ SqL B.K G a (ns.map V.int)
def VRs (B : Tb) (G : Hp) (ρ : List Addr) : List W → List V → Prop
  | [], vs => vs = []
  | x :: xs, vs => ∃ u us, vs = u :: us ∧ VR B G ρ x u ∧ VRs B G ρ xs us
end
/-- what an object holds at a, in H -/
def OR (B : Tb) (G : Hp) (ρ : List Addr) (H : Hp) : Ob → Addr → Prop
  | .lst xs, a => ∃ vs, H a = some (.lst vs) ∧ VRs B G ρ xs vs
  | .dct n ks us, a => ∃ kvs, n = false ∧ H a = some (.dK kvs) ∧ ks = kvs.map (fun p => kW p.1) ∧ VRs B G ρ us (kvs.map (·.2))
  | .ins c fs, a => ∃ dx vs, H a = some (.ins (B.cA c) dx ((B.T.fln c).zip vs)) ∧ fs.length ≤ (B.T.fln c).length ∧ VRs B G ρ fs vs

/-- locked: a frozen dict that has been walked -/
def Lk (H : Hp) (a : Addr) (o : HO) : Prop := ∃ kvs q, o = .dK kvs ∧ H a = some (.frz q o)
/-- what was frozen is so still (a dict may have been locked) -/
def Gs (G G' : Hp) : Prop := ∀ a o, G a = some o → G' a = some o ∨ Lk G' a o
structure Gh where
  G : Hp
  ρ : List Addr
/-- the memory: frozen things, cells -/
structure MR (B : Tb) (g : Gh) (m : List Ob) (H : Hp) : Prop where
  sub : ∀ a o, g.G a = some o → H a = some o
  len : g.ρ.length = m.length
  cel : ∀ (i : Nat) (ob : Ob) (a : Addr), m[i]? = some ob → g.ρ[i]? = some a → OR B g.G g.ρ H ob a ∧ g.G a = none
  nd : g.ρ.Nodup
/-- the names of a frame; H0: the heap at the def's entry -/
structure ER (B : Tb) (g : Gh) (env : List Sl) (σ : List (Option V)) (H H0 : Hp) : Prop where
  len : env.length = σ.length
  val : ∀ (i : Nat) (w : W), env[i]? = some (.val w) → ∃ v, σ[i]? = some (some v) ∧ VR B g.G g.ρ w v
  own : ∀ (i : Nat) (ob : Ob), env[i]? = some (.own ob) → ∃ a, σ[i]? = some (some (.ref a)) ∧ g.G a = none ∧ a ∉ g.ρ ∧ OR B g.G g.ρ H ob a ∧ H0 a = none
  ond : ∀ (i j : Nat) (oi oj : Ob) (a : Addr), env[i]? = some (.own oi) → env[j]? = some (.own oj) → σ[i]? = some (some (.ref a)) → σ[j]? = some (some (.ref a)) → i = j
  slf : ∀ (i c : Nat) (fs : List W) (a : Addr), env[i]? = some (.own (.ins c fs)) → σ[i]? = some (some (.ref a)) → a = B.slf
/-- from g, H to g', H': nothing that stood has changed but the cells -/
structure Ev (g : Gh) (H : Hp) (g' : Gh) (H' : Hp) : Prop where
  gk : Gs g.G g'.G
  rk : ∃ t, g'.ρ = g.ρ ++ t
  gn : ∀ a o, g'.G a = some o → (∃ u, g.G a = some u) ∨ H a = none
  rn : ∀ a, a ∈ g'.ρ → a ∈ g.ρ ∨ H a = none
  fr : ∀ a o, H a = some o → a ∉ g.ρ → H' a = some o ∨ (Lk H' a o ∧ ∃ u, g'.G a = some u)
  dom : ∀ a o, H a = some o → ∃ o', H' a = some o'
/-- an evaluation's outcome: Hs the heap at its start -/
def RR (B : Tb) (g : Gh) (env : List Sl) (σ : List (Option V)) (H Hs : Hp) : RV → V → Prop
  | .val w, v => VR B g.G g.ρ w v
  | .new ob, v => ∃ a, v = .ref a ∧ g.G a = none ∧ a ∉ g.ρ ∧ OR B g.G g.ρ H ob a ∧ Hs a = none
  | .own i, v => σ[i]? = some (some v) ∧ ∃ ob, env[i]? = some (.own ob)
/-- an exception in flight: its class, its own dict -/
def XR (B : Tb) (g : Gh) (H Hs : Hp) : W → Value → Option Addr → Prop
  | .exc c fs, cls, d => cls = .ref (B.cA c) ∧ ∃ dx vs, d = some dx ∧ H dx = some (.xd ((B.T.fln c).zip vs)) ∧ g.G dx = none ∧ dx ∉ g.ρ ∧ Hs dx = none ∧ fs.length ≤ (B.T.fln c).length ∧ VRs B g.G g.ρ fs vs
  | _, _, _ => False

section
variable {B : Tb} {G G' : Hp} {ρ ρ' : List Addr} {g g' g'' : Gh} {H H' H'' H0 Hs : Hp} {m m' : List Ob} {env : List Sl} {σ : List (Option V)}

theorem pre_get {i : Nat} {a : Addr} (h : ∃ t, ρ' = ρ ++ t) (e : ρ[i]? = some a) : ρ'[i]? = some a := by
  obtain ⟨t, rfl⟩ := h
  obtain ⟨hi, _⟩ := List.getElem?_eq_some_iff.mp e
  rw [List.getElem?_append_left hi, e]
theorem Gs.refl : Gs G G := fun _ _ h => .inl h
theorem Gs.of (h : ∀ a o, G a = some o → G' a = some o) : Gs G G' := fun a o e => .inl (h a o e)
theorem Gs.ex (h : Gs G G') {a : Addr} {o : HO} (e : G a = some o) (hn : ∀ kvs, o ≠ .dK kvs := by intro _ z; cases z) : G' a = some o := by
  rcases h a o e with z | ⟨kvs, _, z, _⟩
  · exact z
  · exact absurd z (hn kvs)
theorem Gs.thr (h : Gs G G') {a : Addr} {o : HO} (e : G a = some o) : ∃ u, G' a = some u := by
  rcases h a o e with z | ⟨_, _, _, z⟩
  · exact ⟨_, z⟩
  · exact ⟨_, z⟩
theorem Gs.trans {G'' : Hp} (a : Gs G G') (b : Gs G' G'') : Gs G G'' := fun x o e => by
  rcases a x o e with z | ⟨kvs, q, z1, z2⟩
  · exact b x o z
  · exact .inr ⟨kvs, q, z1, b.ex z2⟩
theorem SqT.up {K : PySem.W.Frag} {a : Addr} {vs : List V} (hg : Gs G G') (h : SqT K G a vs) : SqT K G' a vs := by
  rcases h with (h | ⟨o, h⟩) | h
  · exact .inl (.inl (hg.ex h))
  · exact .inl (.inr ⟨o, hg.ex h⟩)
  · exact .inr h
theorem SqL.up {K : PySem.W.Frag} {a : Addr} {vs : List V} (hg : Gs G G') (h : SqL K G a vs) : SqL K G' a vs := by
  rcases h with (h | ⟨o, h⟩) | h
  · exact .inl (.inl (hg.ex h))
  · exact .inl (.inr ⟨o, hg.ex h⟩)
  · exact .inr h
theorem Rd.up {a : Addr} {kvs : List (Key × V)} (hg : Gs G G') (h : Rd G a (.dK kvs)) : Rd G' a (.dK kvs) := by
  rcases h with h | ⟨o, h⟩
  · rcases hg _ _ h with z | ⟨_, q, _, z⟩
    · exact .inl z
    · exact .inr ⟨q, z⟩
  · exact .inr ⟨o, hg.ex h⟩
mutual
theorem VR.up (hg : Gs G G') (hr : ∃ t, ρ' = ρ ++ t) : ∀ (w : W) (v : V), VR B G ρ w v → VR B G' ρ' w v
  | .non, v, h => by simpa [VR] using h
  | .bl b, v, h => by simpa [VR] using h
  | .int i, v, h => by simpa [VR] using h
  | .str s, v, h => by simpa [VR] using h
  | .tup xs, v, h => by
    simp only [VR] at h ⊢
    obtain ⟨a, vs, e, q, r⟩ := h
    exact ⟨a, vs, e, SqT.up hg q, VRs.up hg hr xs vs r⟩
  | .lst xs, v, h => by
    simp only [VR] at h ⊢
    obtain ⟨a, vs, e, q, r⟩ := h
    exact ⟨a, vs, e, hg.ex q, VRs.up hg hr xs vs r⟩
  | .dct n ks us, v, h => by
    simp only [VR] at h ⊢
    obtain ⟨a, kvs, e, hn, q, ek, r⟩ := h
    exact ⟨a, kvs, e, hn, Rd.up hg q, ek, VRs.up hg hr us _ r⟩
  | .ins c fs, v, h => by
    simp only [VR] at h ⊢
    obtain ⟨a, dx, vs, e, q, l, r⟩ := h
    exact ⟨a, dx, vs, e, hg.ex q, l, VRs.up hg hr fs _ r⟩
  | .exc c fs, v, h => by
    simp only [VR] at h ⊢
    obtain ⟨a, dx, vs, e, q, q2, l, r⟩ := h
    exact ⟨a, dx, vs, e, hg.ex q (by intro _ z; unfold excHO at z; cases z), hg.ex q2, l, VRs.up hg hr fs _ r⟩
  | .cell i, v, h => by
    simp only [VR] at h ⊢
    obtain ⟨a, e, r⟩ := h
    exact ⟨a, pre_get hr e, r⟩
  | .scr ns, v, h => by
    simp only [VR] at h ⊢
    obtain ⟨a, e, q⟩ := h
    exact ⟨a, e, SqL.up hg q⟩
theorem VRs.up (hg : Gs G G') (hr : ∃ t, ρ' = ρ ++ t) : ∀ (ws : List W) (vs : List V), VRs B G ρ ws vs → VRs B G' ρ' ws vs
  | [], vs, h => by simpa [VRs] using h
  | x :: xs, vs, h => by
    simp only [VRs] at h ⊢
    obtain ⟨u, us, e, h1, h2⟩ := h
    exact ⟨u, us, e, VR.up hg hr x u h1, VRs.up hg hr xs us h2⟩
end
theorem VRs.length : ∀ {ws : List W} {vs : List V}, VRs B G ρ ws vs → ws.length = vs.length
  | [], vs, h => by simp only [VRs] at h; simp [h]
  | x :: xs, vs, h => by
    simp only [VRs] at h
    obtain ⟨u, us, rfl, _, h2⟩ := h
    simp [VRs.length h2]
theorem VRs.get : ∀ {ws : List W} {vs : List V} {i : Nat} {w : W}, VRs B G ρ ws vs → ws[i]? = some w → ∃ v, vs[i]? = some v ∧ VR B G ρ w v
  | [], _, _, _, _, e => by simp at e
  | x :: xs, vs, 0, w, h, e => by
    simp only [VRs] at h
    obtain ⟨u, us, rfl, h1, _⟩ := h
    simp at e
    subst e
    exact ⟨u, rfl, h1⟩
  | x :: xs, vs, i + 1, w, h, e => by
    simp only [VRs] at h
    obtain ⟨u, us, rfl, _, h2⟩ := h
    exact VRs.get (i := i) h2 (by simpa using e)
theorem VRs.nil : VRs B G ρ [] [] := by simp [VRs]
theorem VRs.cons {w : W} {v : V} {ws : List W} {vs : List V} (h1 : VR B G ρ w v) (h2 : VRs B G ρ ws vs) : VRs B G ρ (w :: ws) (v :: vs) := by
  simp only [VRs]
  exact ⟨v, vs, rfl, h1, h2⟩
theorem VRs.app : ∀ {ws us : List W} {vs xs : List V}, VRs B G ρ ws vs → VRs B G ρ us xs → VRs B G ρ (ws ++ us) (vs ++ xs)
  | [], _, vs, _, h, h2 => by
    simp only [VRs] at h
    subst h
    exact h2
  | w :: ws, us, vs, xs, h, h2 => by
    simp only [VRs] at h
    obtain ⟨u, us', rfl, h1, h3⟩ := h
    exact VRs.cons h1 (VRs.app h3 h2)
theorem VRs.take : ∀ {ws : List W} {vs : List V} (n : Nat), VRs B G ρ ws vs → VRs B G ρ (ws.take n) (vs.take n)
  | _, _, 0, _ => VRs.nil
  | [], vs, n + 1, h => by
    simp only [VRs] at h
    subst h
    exact VRs.nil
  | w :: ws, vs, n + 1, h => by
    simp only [VRs] at h
    obtain ⟨u, us, rfl, h1, h2⟩ := h
    exact VRs.cons h1 (VRs.take n h2)
theorem VRs.drop : ∀ {ws : List W} {vs : List V} (n : Nat), VRs B G ρ ws vs → VRs B G ρ (ws.drop n) (vs.drop n)
  | _, _, 0, h => h
  | [], vs, n + 1, h => by
    simp only [VRs] at h
    subst h
    exact VRs.nil
  | w :: ws, vs, n + 1, h => by
    simp only [VRs] at h
    obtain ⟨u, us, rfl, h1, h2⟩ := h
    exact VRs.drop n h2
theorem VRs.set {w : W} {v : V} (hw : VR B G ρ w v) : ∀ {ws : List W} {vs : List V} (i : Nat), VRs B G ρ ws vs → VRs B G ρ (ws.set i w) (vs.set i v)
  | [], vs, _, h => by
    simp only [VRs] at h
    subst h
    exact VRs.nil
  | x :: ws, vs, 0, h => by
    simp only [VRs] at h
    obtain ⟨u, us, rfl, h1, h2⟩ := h
    exact VRs.cons hw h2
  | x :: ws, vs, i + 1, h => by
    simp only [VRs] at h
    obtain ⟨u, us, rfl, h1, h2⟩ := h
    exact VRs.cons h1 (VRs.set hw i h2)
theorem OR.up {ob : Ob} {a : Addr} (hg : Gs G G') (hr : ∃ t, ρ' = ρ ++ t) (hH : ∀ o, H a = some o → H' a = some o) (h : OR B G ρ H ob a) : OR B G' ρ' H' ob a := by
  cases ob with
  | lst xs =>
    obtain ⟨vs, e, r⟩ := h
    exact ⟨vs, hH _ e, VRs.up hg hr _ _ r⟩
  | dct n ks us =>
    obtain ⟨kvs, hn, e, ek, r⟩ := h
    exact ⟨kvs, hn, hH _ e, ek, VRs.up hg hr _ _ r⟩
  | ins c fs =>
    obtain ⟨dx, vs, e, l, r⟩ := h
    exact ⟨dx, vs, hH _ e, l, VRs.up hg hr _ _ r⟩
theorem OR.there {ob : Ob} {a : Addr} (h : OR B G ρ H ob a) : ∃ o, H a = some o := by
  cases ob with
  | lst xs =>
    obtain ⟨vs, e, r⟩ := h
    exact ⟨_, e⟩
  | dct n ks us =>
    obtain ⟨kvs, hn, e, ek, r⟩ := h
    exact ⟨_, e⟩
  | ins c fs =>
    obtain ⟨dx, vs, e, l, r⟩ := h
    exact ⟨_, e⟩

theorem Ev.refl : Ev g H g H := ⟨Gs.refl, ⟨[], by simp⟩, fun _ o h => .inl ⟨o, h⟩, fun _ h => .inl h, fun _ _ h _ => .inl h, fun _ o h => ⟨o, h⟩⟩
theorem Ev.trans (a : Ev g H g' H') (b : Ev g' H' g'' H'') : Ev g H g'' H'' where
  gk := a.gk.trans b.gk
  rk := by
    obtain ⟨t, e⟩ := a.rk
    obtain ⟨u, e2⟩ := b.rk
    exact ⟨t ++ u, by rw [e2, e, List.append_assoc]⟩
  gn := fun c o h => by
    rcases b.gn c o h with ⟨u, h⟩ | h
    · exact a.gn c u h
    · cases q : H c with
      | none => exact .inr rfl
      | some u =>
        obtain ⟨o', e⟩ := a.dom c u q
        rw [e] at h
        cases h
  rn := fun c h => by
    rcases b.rn c h with h | h
    · exact a.rn c h
    · cases q : H c with
      | none => exact .inr rfl
      | some u =>
        obtain ⟨o', e⟩ := a.dom c u q
        rw [e] at h
        cases h
  fr := fun c o h n => by
    have n' : c ∉ g'.ρ := fun hm => by
      rcases a.rn c hm with z | z
      · exact n z
      · rw [h] at z
        cases z
    rcases a.fr c o h n with z | ⟨⟨kvs, q, z2, z3⟩, u, z1⟩
    · exact b.fr c o z n'
    · rcases b.fr c _ z3 n' with y | ⟨y2, _⟩
      · exact .inr ⟨⟨kvs, q, z2, y⟩, b.gk.thr z1⟩
      · obtain ⟨_, _, y3, _⟩ := y2
        cases y3
  dom := fun c o h => by
    obtain ⟨o', e⟩ := a.dom c o h
    exact b.dom c o' e
theorem Ev.vr (e : Ev g H g' H') {w : W} {v : V} (h : VR B g.G g.ρ w v) : VR B g'.G g'.ρ w v := VR.up e.gk e.rk w v h
theorem Ev.vrs (e : Ev g H g' H') {w : List W} {v : List V} (h : VRs B g.G g.ρ w v) : VRs B g'.G g'.ρ w v := VRs.up e.gk e.rk w v h
theorem Ev.gno (e : Ev g H g' H') {a : Addr} {o : HO} (hG : g.G a = none) (hH : H a = some o) : g'.G a = none := by
  cases q : g'.G a with
  | none => rfl
  | some u =>
    rcases e.gn a u q with ⟨_, z⟩ | z
    · rw [hG] at z; cases z
    · rw [hH] at z; cases z
theorem Ev.rno (e : Ev g H g' H') {a : Addr} {o : HO} (hr : a ∉ g.ρ) (hH : H a = some o) : a ∉ g'.ρ := fun hm => by
  rcases e.rn a hm with z | z
  · exact hr z
  · rw [hH] at z; cases z
theorem Ev.keepOwn (e : Ev g H g' H') {a : Addr} {o : HO} (hG : g.G a = none) (hr : a ∉ g.ρ) (hH : H a = some o) : H' a = some o := by
  rcases e.fr a o hH hr with z | ⟨_, u, z⟩
  · exact z
  · rw [e.gno hG hH] at z
    cases z
theorem ER.ev (h : ER B g env σ H H0) (e : Ev g H g' H') : ER B g' env σ H' H0 where
  len := h.len
  val := fun i w q => by
    obtain ⟨v, h1, h2⟩ := h.val i w q
    exact ⟨v, h1, e.vr h2⟩
  own := fun i ob q => by
    obtain ⟨a, h1, h2, h3, h4, h5⟩ := h.own i ob q
    obtain ⟨o, ho⟩ := h4.there
    exact ⟨a, h1, e.gno h2 ho, e.rno h3 ho, OR.up e.gk e.rk (fun o' q => e.keepOwn h2 h3 q) h4, h5⟩
  ond := h.ond
  slf := h.slf
theorem RR.ev {rv : RV} {v : V} (h : RR B g env σ H Hs rv v) (e : Ev g H g' H') : RR B g' env σ H' Hs rv v := by
  cases rv with
  | val w => exact e.vr h
  | new ob =>
    obtain ⟨a, h1, h2, h3, h4, h5⟩ := h
    obtain ⟨o, ho⟩ := h4.there
    exact ⟨a, h1, e.gno h2 ho, e.rno h3 ho, OR.up e.gk e.rk (fun o' q => e.keepOwn h2 h3 q) h4, h5⟩
  | own i => exact h
/-- what a value reads as, its outermost object in H -/
def RD (B : Tb) (g : Gh) (H : Hp) : W → V → Prop
  | .lst xs, v => ∃ a vs, v = .ref a ∧ H a = some (.lst vs) ∧ VRs B g.G g.ρ xs vs
  | .scr ns, v => ∃ a, v = .ref a ∧ SqL B.K H a (ns.map V.int)
  | .dct n ks us, v => ∃ a kvs, v = .ref a ∧ n = false ∧ Rd H a (.dK kvs) ∧ ks = kvs.map (fun p => kW p.1) ∧ VRs B g.G g.ρ us (kvs.map (·.2))
  | .ins c fs, v => ∃ a dx vs, v = .ref a ∧ H a = some (.ins (B.cA c) dx ((B.T.fln c).zip vs)) ∧ fs.length ≤ (B.T.fln c).length ∧ VRs B g.G g.ρ fs vs
  | .exc c fs, v => ∃ a dx vs, v = .ref a ∧ H a = some (excHO (B.cA c) dx a) ∧ H dx = some (.xd ((B.T.fln c).zip vs)) ∧ fs.length ≤ (B.T.fln c).length ∧ VRs B g.G g.ρ fs vs
  | .cell _, _ => False
  | w, v => VR B g.G g.ρ w v
theorem OR.rd {ob : Ob} {a : Addr} (h : OR B g.G g.ρ H ob a) : RD B g H ob.w (.ref a) := by
  cases ob with
  | lst xs =>
    obtain ⟨vs, e, r⟩ := h
    exact ⟨a, vs, rfl, e, r⟩
  | dct n ks us =>
    obtain ⟨kvs, hn, e, ek, r⟩ := h
    exact ⟨a, kvs, rfl, hn, .inl e, ek, r⟩
  | ins c fs =>
    obtain ⟨dx, vs, e, l, r⟩ := h
    exact ⟨a, dx, vs, rfl, e, l, r⟩
theorem MR.ex (M : MR B g m H) {a : Addr} {o : HO} (h : g.G a = some o) (hn : ∀ kvs, o ≠ .dK kvs := by intro _ z; cases z) : H a = some o := M.sub a o h
theorem MR.thr (M : MR B g m H) {a : Addr} {o : HO} (h : g.G a = some o) : ∃ u, H a = some u := ⟨_, M.sub a o h⟩
theorem SqT.mr {K : PySem.W.Frag} (M : MR B g m H) {a : Addr} {vs : List V} (h : SqT K g.G a vs) : SqT K H a vs := by
  rcases h with (h | ⟨o, h⟩) | h
  · exact .inl (.inl (M.ex h))
  · exact .inl (.inr ⟨o, M.ex h⟩)
  · exact .inr h
theorem SqL.mr {K : PySem.W.Frag} (M : MR B g m H) {a : Addr} {vs : List V} (h : SqL K g.G a vs) : SqL K H a vs := by
  rcases h with (h | ⟨o, h⟩) | h
  · exact .inl (.inl (M.ex h))
  · exact .inl (.inr ⟨o, M.ex h⟩)
  · exact .inr h
theorem Rd.mr (M : MR B g m H) {a : Addr} {kvs : List (Key × V)} (h : Rd g.G a (.dK kvs)) : Rd H a (.dK kvs) := by
  rcases h with h | ⟨o, h⟩
  · exact .inl (M.sub _ _ h)
  · exact .inr ⟨o, M.sub _ _ h⟩
theorem RD.of {w : W} {v : V} (M : MR B g m H) (h : VR B g.G g.ρ w v) (hc : ∀ i, w ≠ .cell i) : RD B g H w v := by
  cases w with
  | non => exact h
  | bl b => exact h
  | int i => exact h
  | str s => exact h
  | tup xs => exact h
  | lst xs =>
    simp only [VR] at h
    obtain ⟨a, vs, e, q, r⟩ := h
    exact ⟨a, vs, e, M.ex q, r⟩
  | scr ns =>
    simp only [VR] at h
    obtain ⟨a, e, q⟩ := h
    exact ⟨a, e, SqL.mr M q⟩
  | dct n ks us =>
    simp only [VR] at h
    obtain ⟨a, kvs, e, hn, q, ek, r⟩ := h
    exact ⟨a, kvs, e, hn, Rd.mr M q, ek, r⟩
  | ins c fs =>
    simp only [VR] at h
    obtain ⟨a, dx, vs, e, q, l, r⟩ := h
    exact ⟨a, dx, vs, e, M.ex q, l, r⟩
  | exc c fs =>
    simp only [VR] at h
    obtain ⟨a, dx, vs, e, q, q2, l, r⟩ := h
    exact ⟨a, dx, vs, e, M.ex q (by intro _ z; unfold excHO at z; cases z), M.ex q2, l, r⟩
  | cell i => exact absurd rfl (hc i)
theorem MR.get (M : MR B g m H) {i : Nat} {ob : Ob} (e : m[i]? = some ob) : ∃ a, g.ρ[i]? = some a ∧ OR B g.G g.ρ H ob a ∧ g.G a = none := by
  obtain ⟨hi, _⟩ := List.getElem?_eq_some_iff.mp e
  have hl : i < g.ρ.length := by rw [M.len]; exact hi
  have e2 : g.ρ[i]? = some g.ρ[i] := List.getElem?_eq_getElem hl
  exact ⟨_, e2, M.cel i ob _ e e2⟩
/-- rd tells the truth -/
theorem rd_ok {rv : RV} {v : V} {u : W} (M : MR B g m H) (hE : ER B g env σ H H0) (h : RR B g env σ H Hs rv v) (e : rd env m rv = some u) : RD B g H u v := by
  cases rv with
  | val w =>
    cases w with
    | cell i =>
      have h' : VR B g.G g.ρ (.cell i) v := h
      simp only [VR] at h'
      obtain ⟨a, e1, rfl⟩ := h'
      simp only [rd] at e
      split at e
      · rename_i o ho
        cases e
        obtain ⟨a', e2, h3, _⟩ := M.get ho
        rw [e1] at e2
        cases e2
        exact h3.rd
      · cases e
    | _ => (simp only [rd] at e; cases e; exact RD.of M h (fun _ z => nomatch z))
  | new ob =>
    obtain ⟨a, rfl, _, _, h4, _⟩ := h
    simp only [rd] at e
    cases e
    exact h4.rd
  | own i =>
    obtain ⟨h1, ob, h2⟩ := h
    simp only [rd, h2] at e
    cases e
    obtain ⟨a, h3, _, _, h6, _⟩ := hE.own i ob h2
    rw [h1] at h3
    cases h3
    exact h6.rd
/-- a new object is frozen -/
theorem frz_ok {ob : Ob} {a : Addr} (M : MR B g m H) (h1 : g.G a = none) (h2 : a ∉ g.ρ) (h3 : OR B g.G g.ρ H ob a) :
    ∃ g', g'.ρ = g.ρ ∧ (∀ b o, g.G b = some o → g'.G b = some o) ∧ (∀ b o, g'.G b = some o → g.G b = some o ∨ b = a) ∧ VR B g'.G g'.ρ ob.w (.ref a) ∧ MR B g' m H := by
  obtain ⟨o, ho⟩ := h3.there
  have gk : ∀ b u, g.G b = some u → upd g.G a o b = some u := fun b u q => by
    rw [upd_ne]
    · exact q
    · intro z
      subst z
      rw [h1] at q
      cases q
  refine ⟨⟨upd g.G a o, g.ρ⟩, rfl, gk, fun b u q => ?_, ?_, ⟨fun b u q => ?_, M.len, fun i ob' b e1 e2 => ?_, M.nd⟩⟩
  · by_cases hb : b = a
    · exact .inr hb
    · have q' : upd g.G a o b = some u := q
      rw [upd_ne hb] at q'
      exact .inl q'
  · have r : ∃ t, g.ρ = g.ρ ++ t := ⟨[], by simp⟩
    cases ob with
    | lst xs =>
      obtain ⟨vs, e, r'⟩ := h3
      rw [ho] at e
      cases e
      show VR B _ _ (.lst xs) _
      simp only [VR]
      exact ⟨a, vs, rfl, upd_same, VRs.up (Gs.of gk) r _ _ r'⟩
    | dct n ks us =>
      obtain ⟨kvs, hn, e, ek, r'⟩ := h3
      rw [ho] at e
      cases e
      show VR B _ _ (.dct n ks us) _
      simp only [VR]
      exact ⟨a, kvs, rfl, hn, .inl upd_same, ek, VRs.up (Gs.of gk) r _ _ r'⟩
    | ins c fs =>
      obtain ⟨dx, vs, e, l, r'⟩ := h3
      rw [ho] at e
      cases e
      show VR B _ _ (.ins c fs) _
      simp only [VR]
      exact ⟨a, dx, vs, rfl, upd_same, l, VRs.up (Gs.of gk) r _ _ r'⟩
  · have q' : upd g.G a o b = some u := q
    by_cases hb : b = a
    · subst hb
      rw [upd_same] at q'
      cases q'
      exact ho
    · rw [upd_ne hb] at q'
      exact M.sub b u q'
  · obtain ⟨h4, h5⟩ := M.cel i ob' b e1 e2
    have hb : b ≠ a := fun z => h2 (z ▸ List.mem_of_getElem? e2)
    exact ⟨OR.up (Gs.of gk) ⟨[], by simp⟩ (fun _ q => q) h4, by show upd g.G a o b = none; rw [upd_ne hb]; exact h5⟩
end
end Mi

set_option Elab.async false
set_option linter.all false
set_option maxRecDepth 100000
set_option maxHeartbeats 1000000
/-! Mi3: the readings of the small language; operators. -/
namespace Mi
open PySem PySem.Spec L2
open PyProof.Rows (Fr News)

/-! ### any rule of a kind -/
section
variable {X : Cx}
def rAny (X : Cx) (f : Value → Value → Sem Value) : R2 := fun x y H Q => ∃ r : R2, OpR X f r ∧ r x y H Q
theorem op_any {f : Value → Value → Sem Value} : OpR X f (rAny X f) := by
  intro pins s σ H x y v u Q I rx ry h
  obtain ⟨r, hr, q⟩ := h
  exact hr pins s σ H x y v u Q I rx ry q
def cAny (X : Cx) (f : Value) : List V → Hp → VK → Prop := fun xs H Q => ∃ r, CallR X f r ∧ r xs H Q
theorem call_any {f : Value} : CallR X f (cAny X f) := by
  intro pins s σ H xs us Q I r h
  obtain ⟨r', hr, q⟩ := h
  exact hr pins s σ H xs us Q I r q
def iAny (X : Cx) : R2 := fun x y H Q => ∃ r : R2, IxR X r ∧ r x y H Q
theorem ix_any : IxR X (iAny X) := by
  intro value slice pins s σ H x y v u Q I rx ry h hs
  obtain ⟨r', hr, q⟩ := h
  exact hr value slice pins s σ H x y v u Q I rx ry q hs
def sAny (X : Cx) : V → Option Int → Option Int → Hp → VK → Prop := fun x lo hi H Q => ∃ r, SlR X r ∧ r x lo hi H Q
theorem sl_any : SlR X (sAny X) := by
  unfold SlR
  intros
  rename_i h
  obtain ⟨r', hr, q⟩ := h
  exact hr _ _ _ _ _ _ _ _ _ _ _ _ (by assumption) (by assumption) (by assumption) (by assumption) (by assumption) q
theorem PE.mono {e : Expr} {t t' : TE} (h : PE X e t) (i : ∀ σ H Q, t' σ H Q → t σ H Q) : PE X e t' := ⟨fun pins s σ H Q I q => h.run pins s σ H Q I (i σ H Q q)⟩
theorem PE.some {e : Expr} {t' : TE} (i : ∀ σ H Q, t' σ H Q → ∃ t, PE X e t ∧ t σ H Q) : PE X e t' := ⟨fun pins s σ H Q I q => by
  obtain ⟨t, h, q'⟩ := i σ H Q q
  exact h.run pins s σ H Q I q'⟩
theorem PT.mono {e : Expr} {t t' : TT} (h : PT X e t) (i : ∀ σ H Q, t' σ H Q → t σ H Q) : PT X e t' := ⟨fun pins s σ H Q I q => h.run pins s σ H Q I (i σ H Q q)⟩
theorem PW.mono {e : Expr} {t t' : TT} (h : PW X e t) (i : ∀ σ H Q, t' σ H Q → t σ H Q) : PW X e t' := ⟨fun wh pins s σ H Q I q => h.run wh pins s σ H Q I (i σ H Q q)⟩
theorem PA.mono {es : List Expr} {t t' : TA} (h : PA X es t) (i : ∀ σ H Q, t' σ H Q → t σ H Q) : PA X es t' := ⟨fun pos pins s σ H Q I q => h.run pos pins s σ H Q I (i σ H Q q)⟩
theorem PS.mono {e : Stmt} {t t' : TS} (h : PS X e t) (i : ∀ D σ H, t' D σ H → t D σ H) : PS X e t' := ⟨fun pins s σ H Q I q => h.run pins s σ H Q I (i Q σ H q)⟩
theorem PS.some {e : Stmt} {t' : TS} (i : ∀ D σ H, t' D σ H → ∃ t, PS X e t ∧ t D σ H) : PS X e t' := ⟨fun pins s σ H Q I q => by
  obtain ⟨t, h, q'⟩ := i Q σ H q
  exact h.run pins s σ H Q I q'⟩
theorem PSs.mono {e : List Stmt} {t t' : TS} (h : PSs X e t) (i : ∀ D σ H, t' D σ H → t D σ H) : PSs X e t' := ⟨fun pins s σ H Q I q => h.run pins s σ H Q I (i Q σ H q)⟩
theorem PG.mono {e : Expr} {t t' : TG} (h : PG X e t) (i : ∀ v σ H Q, t' v σ H Q → t v σ H Q) : PG X e t' := ⟨fun pins s σ H v u Q I r q => h.run pins s σ H v u Q I r (i v σ H Q q)⟩
end

/-! ### outcomes -/
section
variable {B : Tb}
def OkG {α β : Type} (B : Tb) (g : Gh) (H : Hp) (rel : Gh → Hp → α → β → Prop) (r : Out α) (Q : β → Hp → Prop) (Wx : Value → Option Addr → Hp → Prop) : Prop := match r with
  | .ok x m' => ∀ g' y H', Ev g H g' H' → MR B g' m' H' → rel g' H' x y → Q y H'
  | .exc x m' => ∀ g' H' cls d, Ev g H g' H' → MR B g' m' H' → XR B g' H' H x cls d → Wx cls d H'
  | .stuck => False
/-- relations between what the evaluator gives and what stands there -/
abbrev relW (B : Tb) : Gh → Hp → W → V → Prop := fun g' _ w v => VR B g'.G g'.ρ w v
abbrev relWs (B : Tb) : Gh → Hp → List W → List V → Prop := fun g' _ w v => VRs B g'.G g'.ρ w v
abbrev relB : Gh → Hp → Bool → Bool → Prop := fun _ _ b c => b = c
abbrev relR (B : Tb) (env : En) (σ : List (Option V)) (Hs : Hp) : Gh → Hp → RV → V → Prop := fun g' H' rv v => RR B g' env σ H' Hs rv v
variable (cf : CF) (Wx : WX)
/-- an expression -/
def tE (B : Tb) (cf : CF) (Wx : WX) (ir : E) : TE := fun σ H Q => ∃ g env m H0, MR B g m H ∧ ER B g env σ H H0 ∧ OkG B g H (relR B env σ H) (evE B.T cf env ir m) Q (fun c d H' => Wx c d σ H')
def tWs (B : Tb) (cf : CF) (Wx : WX) (ir : Es) : TA := fun σ H Q => ∃ g env m H0, MR B g m H ∧ ER B g env σ H H0 ∧ OkG B g H (relWs B) (evWs B.T cf env ir m) Q (fun c d H' => Wx c d σ H')
/-- a test -/
def evT (T : Pg) (cf : CF) (env : En) (ir : E) (m : Mem) : Out Bool := (evE T cf env ir m).bind fun r m1 => match r with | .val (.bl b) => .ok b m1 | _ => .stuck
def tT (B : Tb) (cf : CF) (Wx : WX) (ir : E) : TT := fun σ H Q => ∃ g env m H0, MR B g m H ∧ ER B g env σ H H0 ∧ OkG B g H relB (evT B.T cf env ir m) Q (fun c d H' => Wx c d σ H')
end

section
variable {B : Tb} {g g' gc : Gh} {H H' Hc Hs H0 : Hp} {m m' mc : List Ob} {env : List Sl} {σ : List (Option V)} {Wx : WX} {cf : CF}
theorem Ev.none' (e : Ev g H g' H') {a : Addr} (h : H' a = Option.none) : H a = Option.none := by
  cases q : H a with
  | none => rfl
  | some o =>
    obtain ⟨o', e'⟩ := e.dom a o q
    rw [h] at e'
    cases e'
theorem XR.back {w : W} {c : Value} {d : Option Addr} {g2 : Gh} {H2 : Hp} (q : XR B g2 H2 Hc w c d) (e : Ev g H gc Hc) : XR B g2 H2 H w c d := by
  cases w with
  | exc c fs =>
    obtain ⟨h1, dx, vs, h2, h3, h4, h5, h6, h7⟩ := q
    exact ⟨h1, dx, vs, h2, h3, h4, h5, e.none' h6, h7⟩
  | _ => exact q.elim
theorem OkG.bind {α β γ δ : Type} {rel : Gh → Hp → α → β → Prop} {rel2 : Gh → Hp → γ → δ → Prop} {r : Out α} {f : α → Mem → Out γ} {Q : δ → Hp → Prop} {Q1 : β → Hp → Prop} {We : Value → Option Addr → Hp → Prop}
    (ev : Ev g H gc Hc) (h : OkG B g H rel2 (r.bind f) Q We)
    (K : ∀ x m1 g1 y H1, r = .ok x m1 → Ev g H g1 H1 → Ev gc Hc g1 H1 → MR B g1 m1 H1 → rel g1 H1 x y → OkG B g H rel2 (f x m1) Q We → Q1 y H1) : OkG B gc Hc rel r Q1 We := by
  cases r with
  | ok x m1 => exact fun g1 y H1 e M q => K x m1 g1 y H1 rfl (ev.trans e) e M q h
  | exc x m1 => exact fun g1 H1 c d e M q => h g1 H1 c d (ev.trans e) M (q.back ev)
  | stuck => exact h
theorem OkG.mono {α β : Type} {rel rel' : Gh → Hp → α → β → Prop} {r : Out α} {Q Q' : β → Hp → Prop} {We : Value → Option Addr → Hp → Prop}
    (h : OkG B g H rel r Q We) (k : ∀ g' y H' x, rel' g' H' x y → rel g' H' x y) (q : ∀ y H', Q y H' → Q' y H') : OkG B g H rel' r Q' We := by
  cases r with
  | ok x m1 => exact fun g1 y H1 e M z => q _ _ (h g1 y H1 e M (k _ _ _ _ z))
  | exc x m1 => exact h
  | stuck => exact h
/-- a part is evaluated first -/
theorem tE_bind {γ δ : Type} {rel2 : Gh → Hp → γ → δ → Prop} {a : E} {f : RV → Mem → Out γ} {Q : δ → Hp → Prop} {Kt : VK}
    (Mc : MR B gc mc Hc) (Rc : ER B gc env σ Hc H0) (ev : Ev g H gc Hc) (h : OkG B g H rel2 ((evE B.T cf env a mc).bind f) Q (fun c d H' => Wx c d σ H'))
    (K : ∀ rv m1 g1 v H1, evE B.T cf env a mc = .ok rv m1 → Ev g H g1 H1 → Ev gc Hc g1 H1 → MR B g1 m1 H1 → ER B g1 env σ H1 H0 → RR B g1 env σ H1 Hc rv v → OkG B g H rel2 (f rv m1) Q (fun c d H' => Wx c d σ H') → Kt v H1) :
    tE B cf Wx a σ Hc Kt :=
  ⟨gc, env, mc, H0, Mc, Rc, h.bind ev fun x m1 g1 y H1 e e1 e2 M q h1 => K x m1 g1 y H1 e e1 e2 M (Rc.ev e2) q h1⟩
theorem tWs_bind {γ δ : Type} {rel2 : Gh → Hp → γ → δ → Prop} {a : Es} {f : List W → Mem → Out γ} {Q : δ → Hp → Prop} {Kt : List V → Hp → Prop}
    (Mc : MR B gc mc Hc) (Rc : ER B gc env σ Hc H0) (ev : Ev g H gc Hc) (h : OkG B g H rel2 ((evWs B.T cf env a mc).bind f) Q (fun c d H' => Wx c d σ H'))
    (K : ∀ ws m1 g1 vs H1, evWs B.T cf env a mc = .ok ws m1 → Ev g H g1 H1 → Ev gc Hc g1 H1 → MR B g1 m1 H1 → ER B g1 env σ H1 H0 → VRs B g1.G g1.ρ ws vs → OkG B g H rel2 (f ws m1) Q (fun c d H' => Wx c d σ H') → Kt vs H1) :
    tWs B cf Wx a σ Hc Kt :=
  ⟨gc, env, mc, H0, Mc, Rc, h.bind ev fun x m1 g1 y H1 e e1 e2 M q h1 => K x m1 g1 y H1 e e1 e2 M (Rc.ev e2) q h1⟩
theorem tT_bind {γ δ : Type} {rel2 : Gh → Hp → γ → δ → Prop} {a : E} {f : Bool → Mem → Out γ} {Q : δ → Hp → Prop} {Kt : Bool → Hp → Prop}
    (Mc : MR B gc mc Hc) (Rc : ER B gc env σ Hc H0) (ev : Ev g H gc Hc) (h : OkG B g H rel2 ((evT B.T cf env a mc).bind f) Q (fun c d H' => Wx c d σ H'))
    (K : ∀ b m1 g1 H1, Ev g H g1 H1 → Ev gc Hc g1 H1 → MR B g1 m1 H1 → ER B g1 env σ H1 H0 → OkG B g H rel2 (f b m1) Q (fun c d H' => Wx c d σ H') → Kt b H1) :
    tT B cf Wx a σ Hc Kt :=
  ⟨gc, env, mc, H0, Mc, Rc, h.bind ev fun x m1 g1 y H1 e e1 e2 M q h1 => by cases q; exact K x m1 g1 H1 e1 e2 M (Rc.ev e2) h1⟩
/-- the end: a value -/
theorem OkG.val {rv : RV} {v : V} {Q : VK} {We : Value → Option Addr → Hp → Prop} (h : OkG B g H (relR B env σ H) (.ok rv m') Q We) (ev : Ev g H g' H') (M : MR B g' m' H') (r : RR B g' env σ H' H rv v) : Q v H' := h g' v H' ev M r

/-! ### new things -/
theorem Ev.new {p : Addr} {o : HO} (hp : H p = none) : Ev g H g (upd H p o) where
  gk := Gs.refl
  rk := ⟨[], by simp⟩
  gn := fun _ o h => .inl ⟨o, h⟩
  rn := fun _ h => .inl h
  fr := fun a u h _ => .inl (by rw [upd_ne (ne_of_none h hp)]; exact h)
  dom := fun a u h => ⟨u, by rw [upd_ne (ne_of_none h hp)]; exact h⟩
theorem MR.new {p : Addr} {o : HO} (M : MR B g m H) (hp : H p = none) : MR B g m (upd H p o) where
  sub := fun a u h => by rw [upd_ne (ne_of_none (M.sub a u h) hp)]; exact M.sub a u h
  len := M.len
  cel := fun i ob a e1 e2 => by
    obtain ⟨h1, h2⟩ := M.cel i ob a e1 e2
    exact ⟨OR.up Gs.refl ⟨[], by simp⟩ (fun u h => by rw [upd_ne (ne_of_none h hp)]; exact h) h1, h2⟩
  nd := M.nd
theorem MR.gno (M : MR B g m H) {p : Addr} (hp : H p = none) : g.G p = none := by
  cases q : g.G p with
  | none => rfl
  | some o =>
    obtain ⟨x, hx⟩ := M.thr q
    rw [hp] at hx
    cases hx
theorem MR.rno (M : MR B g m H) {p : Addr} (hp : H p = none) : p ∉ g.ρ := fun hm => by
  obtain ⟨i, hi⟩ := List.mem_iff_getElem?.mp hm
  obtain ⟨hl, _⟩ := List.getElem?_eq_some_iff.mp hi
  have hl' : i < m.length := by rw [← M.len]; exact hl
  obtain ⟨h1, _⟩ := M.cel i m[i] p (List.getElem?_eq_getElem hl') hi
  obtain ⟨o, ho⟩ := h1.there
  rw [hp] at ho
  cases ho
/-- a new object, given out as new -/
theorem RR.mk {p : Addr} {o : HO} {ob : Ob} (M : MR B g m H) (hp : H p = none) (hs : Hs p = none) (h : OR B g.G g.ρ (upd H p o) ob p) : RR B g env σ (upd H p o) Hs (.new ob) (.ref p) :=
  ⟨p, rfl, M.gno hp, M.rno hp, h, hs⟩
/-- a new object that is frozen at once -/
def Gh.frz (g : Gh) (p : Addr) (o : HO) : Gh := ⟨upd g.G p o, g.ρ⟩
theorem Ev.pure {p : Addr} {o : HO} (M : MR B g m H) (hp : H p = none) : Ev g H (g.frz p o) (upd H p o) where
  gk := Gs.of fun a u h => by
    show upd g.G p o a = _
    rw [upd_ne (ne_of_none (M.sub a u h) hp)]
    exact h
  rk := ⟨[], by simp [Gh.frz]⟩
  gn := fun a u h => by
    by_cases hb : a = p
    · exact .inr (hb ▸ hp)
    · have h' : upd g.G p o a = some u := h
      rw [upd_ne hb] at h'
      exact .inl ⟨u, h'⟩
  rn := fun _ h => .inl h
  fr := fun a u h _ => .inl (by rw [upd_ne (ne_of_none h hp)]; exact h)
  dom := fun a u h => ⟨u, by rw [upd_ne (ne_of_none h hp)]; exact h⟩
theorem MR.pure {p : Addr} {o : HO} (M : MR B g m H) (hp : H p = none) : MR B (g.frz p o) m (upd H p o) where
  sub := fun a u h => by
    have h' : upd g.G p o a = some u := h
    by_cases hb : a = p
    · subst hb
      rw [upd_same] at h' ⊢
      exact h'
    · rw [upd_ne hb] at h' ⊢
      exact M.sub a u h'
  len := M.len
  cel := fun i ob a e1 e2 => by
    obtain ⟨h1, h2⟩ := M.cel i ob a e1 e2
    obtain ⟨u, hu⟩ := h1.there
    have hb : a ≠ p := ne_of_none hu hp
    refine ⟨OR.up (Ev.pure (o := o) M hp).gk ⟨[], by simp [Gh.frz]⟩ (fun u h => by rw [upd_ne hb]; exact h) h1, ?_⟩
    show upd g.G p o a = none
    rw [upd_ne hb]
    exact h2
  nd := M.nd
theorem Ev.none (e : Ev g H g' H') {a : Addr} (h : H' a = Option.none) : H a = Option.none := by
  cases q : H a with
  | none => rfl
  | some o =>
    obtain ⟨o', e'⟩ := e.dom a o q
    rw [h] at e'
    cases e'
/-- what is new is frozen later -/
theorem esc_ok {rv : RV} {v : V} {w : W} (M : MR B g' m H') (ev : Ev g H g' H') (h : RR B g' env σ H' H rv v) (e : esc rv = some w) :
    ∃ g2, Ev g H g2 H' ∧ MR B g2 m H' ∧ VR B g2.G g2.ρ w v := by
  cases rv with
  | val u =>
    simp only [esc] at e
    cases e
    exact ⟨g', ev, M, h⟩
  | new ob =>
    simp only [esc] at e
    cases e
    obtain ⟨a, rfl, h1, h2, h3, h4⟩ := h
    obtain ⟨g2, r, k1, k2, vr, M2⟩ := frz_ok M h1 h2 h3
    refine ⟨g2, ⟨ev.gk.trans (Gs.of k1), by rw [r]; exact ev.rk, fun b o z => ?_, by rw [r]; exact ev.rn, fun b o z n => ?_, ev.dom⟩, M2, vr⟩
    · rcases k2 b o z with z | z
      · exact ev.gn b o z
      · exact .inr (z ▸ h4)
    · rcases ev.fr b o z n with z | ⟨z1, u, z2⟩
      · exact .inl z
      · exact .inr ⟨z1, u, k1 b u z2⟩
  | own i => cases e
end
end Mi

set_option Elab.async false
set_option linter.all false
set_option maxRecDepth 100000
set_option maxHeartbeats 1000000
/-! Mi4: operators, comparisons, items, slices by values. -/
namespace Mi
open PySem PySem.Spec L2
open PyProof.Rows (Fr News)

def Bop.py : Bop → Operator
  | .add => .Add | .sub => .Sub | .mul => .Mult | .fdiv => .FloorDiv | .mod => .Mod | .pow => .Pow
def Cop.py : Cop → CmpOp
  | .eq => .Eq | .ne => .NotEq | .lt => .Lt | .le => .LtE | .gt => .Gt | .ge => .GtE | .isin => .In | .notin => .NotIn | .is => .Is | .isnot => .IsNot

section
variable {B : Tb} {X : Cx} {g : Gh} {H Hs : Hp} {m : List Ob} {env : List Sl} {σ : List (Option V)}

theorem op_powW : OpR X (binaryOp .Pow) (rI (fun i j => 0 ≤ j ∧ (Builtin.Int.intBits i : Int) * j ≤ 2 ^ 27) fun i j => .int (i ^ j.toNat)) := opI fun _ _ _ _ _ _ _ hc q => PyProof.Rows.pow_int hc.1 hc.2 q

theorem op_mulS : OpR X (binaryOp .Mult) (fun x y H Q => ∃ a k, x = .str a ∧ y = .int k ∧ 0 ≤ k ∧ k ≤ 1000 ∧ a.length ≤ 1000 ∧ Q (.str (Txt.mul a k)) H) := by
  intro pins s σ H x y v u Q I rx ry h
  obtain ⟨a, k, rfl, rfl, h0, h1, h2, q⟩ := h
  obtain ⟨t, rfl⟩ := rx
  obtain ⟨t', rfl⟩ := ry
  have hl : (a.length : Int) ≤ (2 ^ 63 - 1) / k ∨ k < 1 := by
    by_cases hk : k < 1
    · exact .inr hk
    · left
      have : (1000 : Int) ≤ (2 ^ 63 - 1) / k := by
        refine Int.le_ediv_of_mul_le (by omega) ?_
        have : 1000 * k ≤ 1000 * 1000 := Int.mul_le_mul_of_nonneg_left h1 (by decide)
        omega
      omega
  refine SB.mul ⟨?_, fun hk _ => ?_, fun hk _ => ?_⟩ fun t'' k' => ⟨.str _, H, I.kept (t' := k') fun _ _ z => z, ⟨_, rfl⟩, q⟩
  · rw [decide_eq_false (by omega), decide_eq_false (by omega)]
    rfl
  · omega
  · unfold Builtin.Str.tooLong
    rw [sizeLine_eq]
    have h3 : k.toNat ≤ 1000 := by omega
    have h4 : a.length * k.toNat ≤ 1000 * 1000 := Nat.mul_le_mul h2 h3
    simp
    omega
theorem cutV_rel {xs : List W} {vs : List V} (h : VRs B g.G g.ρ xs vs) (lo hi : Option Int) : VRs B g.G g.ρ (cutW xs lo hi) (cutV vs lo hi) := by
  unfold cutW cutV
  rw [h.length]
  exact VRs.take _ (VRs.drop _ h)
theorem VRs.rep {xs : List W} {vs : List V} (h : VRs B g.G g.ρ xs vs) : ∀ k : Nat, VRs B g.G g.ρ (List.replicate k xs).flatten (List.replicate k vs).flatten
  | 0 => VRs.nil
  | k + 1 => by
    rw [List.replicate_succ, List.flatten_cons, List.replicate_succ, List.flatten_cons]
    exact VRs.app h (VRs.rep h k)

/-- a binary operator of values that are no objects of one's own -/
theorem binV_ok {op : Bop} {u v : W} {x y : V} {r : RV} {Q : VK} (hK : X.K = B.K) (M : MR B g m H) (hx : RD B g H u x) (hy : RD B g H v y) (e : binV op u v = some r)
    (q : ∀ g' z H', Ev g H g' H' → MR B g' m H' → RR B g' env σ H' H r z → Q z H') : rAny X (binaryOp op.py) x y H Q := by
  unfold binV at e
  split at e
  · -- int + int
    cases e
    cases hx
    cases hy
    exact ⟨_, op_add, _, _, rfl, rfl, q g _ H Ev.refl M rfl⟩
  · cases e
    cases hx
    cases hy
    exact ⟨_, op_sub, _, _, rfl, rfl, q g _ H Ev.refl M rfl⟩
  · split at e
    · rename_i hc
      cases e
      cases hx
      cases hy
      exact ⟨_, op_mulW, _, _, rfl, rfl, hc, q g _ H Ev.refl M rfl⟩
    · cases e
  · split at e
    · rename_i hc
      cases e
      cases hx
      cases hy
      simp only [Bool.and_eq_true, decide_eq_true_eq] at hc
      exact ⟨_, op_fdivW, _, _, rfl, rfl, hc, q g _ H Ev.refl M rfl⟩
    · cases e
  · split at e
    · rename_i hc
      cases e
      cases hx
      cases hy
      exact ⟨_, op_mod, _, _, rfl, rfl, hc, q g _ H Ev.refl M rfl⟩
    · cases e
  · split at e
    · rename_i hc
      cases e
      cases hx
      cases hy
      simp only [Bool.and_eq_true, decide_eq_true_eq] at hc
      exact ⟨_, op_powW, _, _, rfl, rfl, hc, q g _ H Ev.refl M rfl⟩
    · cases e
  · split at e
    · rename_i hc
      cases e
      cases hx
      cases hy
      exact ⟨_, op_add_str, _, _, rfl, rfl, hc, q g _ H Ev.refl M rfl⟩
    · cases e
  · -- tuples
    split at e
    · rename_i xs ys hc
      cases e
      obtain ⟨a, vs, rfl, sa, ra⟩ := hx
      obtain ⟨b, ws, rfl, sb, rb⟩ := hy
      refine ⟨_, op_catA, a, b, vs, ws, rfl, rfl, by rw [hK]; exact SqT.mr M sa, by rw [hK]; exact SqT.mr M sb, by rw [← ra.length, ← rb.length]; exact hc, fun e0 => ?_, fun e0 e1 => ?_, fun e0 e1 p hp => ?_⟩
      · subst e0
        have ex : xs = [] := List.eq_nil_of_length_eq_zero (by rw [ra.length]; rfl)
        subst ex
        refine q g _ H Ev.refl M ?_
        show VR B _ _ (.tup ([] ++ ys)) _
        simp only [VR]
        exact ⟨b, ws, rfl, sb, rb⟩
      · subst e1
        have ey : ys = [] := List.eq_nil_of_length_eq_zero (by rw [rb.length]; rfl)
        subst ey
        refine q g _ H Ev.refl M ?_
        show VR B _ _ (.tup (xs ++ [])) _
        rw [List.append_nil]
        simp only [VR]
        exact ⟨a, vs, rfl, sa, ra⟩
      · refine q _ _ _ (Ev.pure M hp) (MR.pure M hp) ?_
        show VR B _ _ (.tup (xs ++ ys)) _
        simp only [VR]
        exact ⟨p, vs ++ ws, rfl, .inl (.inl upd_same), VRs.up (Ev.pure (o := .tup (vs ++ ws)) M hp).gk ⟨[], by simp [Gh.frz]⟩ _ _ (VRs.app ra rb)⟩
    · cases e
  · split at e
    · rename_i xs ys hc
      cases e
      obtain ⟨a, vs, rfl, sa, ra⟩ := hx
      obtain ⟨b, ws, rfl, sb, rb⟩ := hy
      refine ⟨_, op_cat, a, b, vs, ws, rfl, rfl, sa, sb, by rw [← ra.length, ← rb.length]; exact hc, fun p hp => ?_⟩
      exact q g _ _ (Ev.new hp) (MR.new M hp) (RR.mk M hp hp ⟨vs ++ ws, upd_same, VRs.app ra rb⟩)
    · cases e
  · split at e
    · rename_i xs k hc
      cases e
      obtain ⟨a, vs, rfl, sa, ra⟩ := hx
      cases hy
      simp only [Bool.and_eq_true, decide_eq_true_eq] at hc
      refine ⟨_, op_rep, a, k, vs, rfl, rfl, sa, hc.1.1, hc.1.2, by rw [← ra.length]; exact hc.2, fun p hp => ?_⟩
      exact q g _ _ (Ev.new hp) (MR.new M hp) (RR.mk M hp hp ⟨_, upd_same, VRs.rep ra _⟩)
    · cases e
  · split at e
    · rename_i a k hc
      cases e
      cases hx
      cases hy
      simp only [Bool.and_eq_true, decide_eq_true_eq] at hc
      exact ⟨_, op_mulS, a, k, rfl, rfl, hc.1.1, hc.1.2, hc.2, q g _ H Ev.refl M rfl⟩
    · cases e
  · cases e
end
end Mi

set_option Elab.async false
set_option linter.all false
set_option maxRecDepth 100000
set_option maxHeartbeats 1000000
/-! Mi5: comparisons by values. -/
namespace Mi
open PySem PySem.Spec L2
open PyProof.Rows (Fr News)

section
variable {B : Tb} {X : Cx} {g : Gh} {H Hs : Hp} {m : List Ob} {env : List Sl} {σ : List (Option V)}
mutual
theorem dpV (M : MR B g m H) : ∀ (w : W) (v : V) (d : PyData), VR B g.G g.ρ w v → toD w = some d → Dp B.K H v d
  | .non, v, d, h, e => by
    simp only [toD] at e
    cases e
    cases h
    exact .non
  | .bl b, v, d, h, e => by
    simp only [toD] at e
    cases e
    cases h
    exact .bl b
  | .int i, v, d, h, e => by
    simp only [toD] at e
    cases e
    cases h
    exact .int i
  | .str s, v, d, h, e => by
    simp only [toD] at e
    cases e
    cases h
    exact .str s
  | .tup xs, v, d, h, e => by
    simp only [toD] at e
    split at e
    · rename_i ds hd
      cases e
      simp only [VR] at h
      obtain ⟨a, vs, rfl, q, r⟩ := h
      exact .tup (SqT.mr M q) (dpVs M xs vs ds r hd)
    · cases e
  | .lst xs, v, d, h, e => by
    simp only [toD] at e
    split at e
    · rename_i ds hd
      cases e
      simp only [VR] at h
      obtain ⟨a, vs, rfl, q, r⟩ := h
      exact .lst (SqL.of (M.ex q)) (dpVs M xs vs ds r hd)
    · cases e
  | .dct _ _ _, v, d, h, e => by simp only [toD] at e; cases e
  | .ins _ _, v, d, h, e => by simp only [toD] at e; cases e
  | .exc _ _, v, d, h, e => by simp only [toD] at e; cases e
  | .cell _, v, d, h, e => by simp only [toD] at e; cases e
  | .scr _, v, d, h, e => by simp only [toD] at e; cases e
theorem dpVs (M : MR B g m H) : ∀ (ws : List W) (vs : List V) (ds : List PyData), VRs B g.G g.ρ ws vs → toDs ws = some ds → DpAll B.K H vs ds
  | [], vs, ds, h, e => by
    simp only [toDs] at e
    cases e
    simp only [VRs] at h
    subst h
    exact .nil
  | x :: xs, vs, ds, h, e => by
    simp only [toDs] at e
    split at e
    · rename_i d ds' h1 h2
      cases e
      simp only [VRs] at h
      obtain ⟨u, us, rfl, r1, r2⟩ := h
      exact .cons (dpV M x u d r1 h1) (dpVs M xs us ds' r2 h2)
    · cases e
end
theorem dpR (M : MR B g m H) {w : W} {v : V} {d : PyData} (h : RD B g H w v) (e : toD w = some d) : Dp B.K H v d := by
  cases w with
  | lst xs =>
    simp only [toD] at e
    split at e
    · rename_i ds hd
      cases e
      obtain ⟨a, vs, rfl, q, r⟩ := h
      exact .lst (SqL.of q) (dpVs M xs vs ds r hd)
    · cases e
  | non => exact dpV M _ _ _ h e
  | bl b => exact dpV M _ _ _ h e
  | int b => exact dpV M _ _ _ h e
  | str b => exact dpV M _ _ _ h e
  | tup b => exact dpV M _ _ _ h e
  | _ => (simp only [toD] at e; cases e)
theorem dpRs (M : MR B g m H) {ws : List W} {vs : List V} {ds : List PyData} (h : VRs B g.G g.ρ ws vs) (e : toDs ws = some ds) : DpAll B.K H vs ds := dpVs M ws vs ds h e

theorem op_eq_len (hu : X.A.units < cLine) : OpR X (compareOp .Eq) (fun x y H Q => ∃ a b xs ys, x = .ref a ∧ y = .ref b ∧ H a = some (.lst xs) ∧ H b = some (.lst ys) ∧ xs.length ≠ ys.length ∧ Q (.bl false) H) := by
  intro pins s σ H x y v u Q I rx ry h
  obtain ⟨a, b, xs, ys, rfl, rfl, ha, hb, hl, q⟩ := h
  cases rx
  cases ry
  obtain ⟨_, its, n, r, hl1, e⟩ := I.lstM ha
  obtain ⟨_, its2, n2, r2, hl2, e2⟩ := I.lstM hb
  refine PySem.P.eq_list_lengths e e2 ?_ hu ⟨.bl false, H, I, rfl, q⟩
  rw [List.size_toArray, List.size_toArray, ← hl1, ← hl2]
  simpa using hl
theorem op_ne_len (hu : X.A.units < cLine) : OpR X (compareOp .NotEq) (fun x y H Q => ∃ a b xs ys, x = .ref a ∧ y = .ref b ∧ H a = some (.lst xs) ∧ H b = some (.lst ys) ∧ xs.length ≠ ys.length ∧ Q (.bl true) H) := by
  intro pins s σ H x y v u Q I rx ry h
  obtain ⟨a, b, xs, ys, rfl, rfl, ha, hb, hl, q⟩ := h
  cases rx
  cases ry
  obtain ⟨_, its, n, r, hl1, e⟩ := I.lstM ha
  obtain ⟨_, its2, n2, r2, hl2, e2⟩ := I.lstM hb
  refine SeqAt.RcNeAt.lists_lengths ⟨_, e, rfl, _, rfl⟩ ⟨_, e2, rfl, _, rfl⟩ ?_ hu _ _ _ _ ⟨.bl true, H, I, rfl, q⟩
  rw [List.size_toArray, List.size_toArray, ← hl1, ← hl2]
  simpa using hl

/-- == of values that are no objects of one's own -/
theorem eqW_ok {u v : W} {x y : V} {b : Bool} (hK : X.K = B.K) (hu : X.A.units + 64 < cLine) (M : MR B g m H) (hx : RD B g H u x) (hy : RD B g H v y) (e : eqW u v = some b) :
    (∀ Q : VK, Q (.bl b) H → rAny X (compareOp .Eq) x y H Q) ∧ (∀ Q : VK, Q (.bl (!b)) H → rAny X (compareOp .NotEq) x y H Q) := by
  have hu0 : X.A.units < cLine := by omega
  have gen : ∀ {u v : W}, RD B g H u x → RD B g H v y → eqD u v = some b → (∀ Q : VK, Q (.bl b) H → rAny X (compareOp .Eq) x y H Q) ∧ (∀ Q : VK, Q (.bl (!b)) H → rAny X (compareOp .NotEq) x y H Q) := by
    intro u v hx hy e
    unfold eqD at e
    split at e
    · rename_i d d' h1 h2
      split at e
      · rename_i hs
        cases e
        simp only [Bool.and_eq_true] at hs
        exact ⟨fun Q q => ⟨_, op_eqD hu, d, d', by rw [hK]; exact dpR M hx h1, by rw [hK]; exact dpR M hy h2, hs.1, hs.2, q⟩,
          fun Q q => ⟨_, op_neD hu, d, d', by rw [hK]; exact dpR M hx h1, by rw [hK]; exact dpR M hy h2, hs.1, hs.2, q⟩⟩
      · cases e
    · cases e
  unfold eqW at e
  split at e
  · cases e
    cases hx
    cases hy
    refine ⟨fun Q q => ⟨_, op_eq, rfl, ?_⟩, fun Q q => ⟨_, op_ne, rfl, ?_⟩⟩
    · rw [dec_int]; exact q
    · rw [dec_int]; exact q
  · cases e
    cases hx
    cases hy
    refine ⟨fun Q q => ⟨_, op_eq, rfl, ?_⟩, fun Q q => ⟨_, op_ne, rfl, ?_⟩⟩
    · rw [dec_str]; exact q
    · rw [dec_str]; exact q
  · cases e
    cases hx
    cases hy
    exact ⟨fun Q q => ⟨_, op_eq, rfl, q⟩, fun Q q => ⟨_, op_ne, rfl, q⟩⟩
  · cases e
    cases hx
    cases hy
    exact ⟨fun Q q => ⟨_, op_eq, rfl, q⟩, fun Q q => ⟨_, op_ne, rfl, q⟩⟩
  · cases e
    cases hx
    cases hy
    refine ⟨fun Q q => ⟨_, op_eq, rfl, ?_⟩, fun Q q => ⟨_, op_ne, rfl, ?_⟩⟩
    · rw [dec_bl]; exact q
    · rw [dec_bl]; exact q
  · cases e
    cases hx
    cases hy
    exact ⟨fun Q q => ⟨_, op_eq, rfl, q⟩, fun Q q => ⟨_, op_ne, rfl, q⟩⟩
  · split at e
    · exact gen hx hy e
    · rename_i xs ys hl
      cases e
      obtain ⟨a, vs, rfl, qa, ra⟩ := hx
      obtain ⟨b, ws, rfl, qb, rb⟩ := hy
      have hl' : vs.length ≠ ws.length := by rw [← ra.length, ← rb.length]; exact hl
      exact ⟨fun Q q => ⟨_, op_eq_len hu0, a, b, vs, ws, rfl, rfl, qa, qb, hl', q⟩, fun Q q => ⟨_, op_ne_len hu0, a, b, vs, ws, rfl, rfl, qa, qb, hl', q⟩⟩
  · exact gen hx hy e

theorem flatRel : ∀ {ws : List W} {vs : List V}, VRs B g.G g.ρ ws vs → ws.all flatW = true → vs.all flatV = true ∧ ∀ {w : W} {v : V}, flatW w = true → VR B g.G g.ρ w v → (vs.any fun z => eqV z v) = (ws.any fun z => eqF z w)
  | [], vs, h, _ => by
    simp only [VRs] at h
    subst h
    exact ⟨rfl, fun _ _ => rfl⟩
  | x :: xs, vs, h, e => by
    simp only [VRs] at h
    obtain ⟨u, us, rfl, h1, h2⟩ := h
    simp only [List.all_cons, Bool.and_eq_true] at e
    obtain ⟨i1, i2⟩ := flatRel h2 e.2
    have fu : flatV u = true := by
      cases x <;> first | (exfalso; simp [flatW] at e; done) | (cases h1; rfl)
    refine ⟨by simp [fu, i1], fun {w v} fw hw => ?_⟩
    simp only [List.any_cons, i2 fw hw]
    congr 1
    cases x <;> first | (exfalso; simp [flatW] at e; done) | (cases h1; cases w <;> first | (exfalso; simp [flatW] at fw; done) | (cases hw; rfl))
theorem VR.flat {w : W} {v : V} (h : VR B g.G g.ρ w v) (f : flatW w = true) : flatV v = true := by
  cases w <;> first | (exfalso; simp [flatW] at f; done) | (cases h; rfl)
theorem RD.flat {w : W} {v : V} (h : RD B g H w v) (f : flatW w = true) : VR B g.G g.ρ w v := by
  cases w <;> first | exact h | (exfalso; simp [flatW] at f; done)
/-- x in t, t a tuple of data -/
theorem op_inDT (hu : X.A.units + 65 < cLine) : OpR X (compareOp .In) (fun x y H Q => ∃ d ds, Dp X.K H x d ∧ Dp X.K H y (.tuple ds) ∧ SeqAt.shaped d = true ∧ SeqAt.shaped (.list ds) = true ∧ Q (.bl (ds.any fun z => PyData.eqv z d)) H) := by
  intro pins s σ H x y v u Q I rx ry h
  obtain ⟨d, ds, hd, he, sd, se, q⟩ := h
  obtain ⟨as, r1⟩ := Dp.reads I d x v hd rx
  obtain ⟨bs, r2⟩ := Dp.reads I (.tuple ds) y u he ry
  exact SeqAt.in_tuple_reads r2 r1 (SeqAt.canLay_of_shaped se) (SeqAt.canLay_of_shaped sd) (PyProof.Rows.room_in_shaped sd hu) ⟨.bl _, H, I, rfl, q⟩
theorem op_notInDT (hu : X.A.units + 65 < cLine) : OpR X (compareOp .NotIn) (fun x y H Q => ∃ d ds, Dp X.K H x d ∧ Dp X.K H y (.tuple ds) ∧ SeqAt.shaped d = true ∧ SeqAt.shaped (.list ds) = true ∧ Q (.bl (!ds.any fun z => PyData.eqv z d)) H) := by
  intro pins s σ H x y v u Q I rx ry h
  obtain ⟨d, ds, hd, he, sd, se, q⟩ := h
  obtain ⟨as, r1⟩ := Dp.reads I d x v hd rx
  obtain ⟨bs, r2⟩ := Dp.reads I (.tuple ds) y u he ry
  exact SeqAt.notIn_tuple_reads r2 r1 (SeqAt.canLay_of_shaped se) (SeqAt.canLay_of_shaped sd) (PyProof.Rows.room_in_shaped sd hu) ⟨.bl _, H, I, rfl, q⟩
theorem op_inDict (hu : X.A.units + 1 < cLine) : OpR X (compareOp .In) (fun x y H Q => ∃ a o, y = .ref a ∧ DGet H a x o ∧ Q (.bl o.isSome) H) := by
  intro pins s σ H x y v u Q I rx ry h
  obtain ⟨a, o, rfl, hg, q⟩ := h
  cases ry
  exact d_in hu I hg rx fun s' I' => ⟨.bl _, H, I', rfl, q⟩
theorem op_notInDict (hu : X.A.units + 1 < cLine) : OpR X (compareOp .NotIn) (fun x y H Q => ∃ a o, y = .ref a ∧ DGet H a x o ∧ Q (.bl (!o.isSome)) H) := by
  intro pins s σ H x y v u Q I rx ry h
  obtain ⟨a, o, rfl, hg, q⟩ := h
  cases ry
  exact d_notIn hu I hg rx fun s' I' => ⟨.bl _, H, I', rfl, q⟩

/-! ### dicts -/
theorem kW_inj {a b : Key} (e : kW a = kW b) : a = b := by
  cases a <;> cases b <;> simp [kW] at e <;> simp [e]
theorem keyV {k : W} {x : V} (h : isKey false k = true) (r : VR B g.G g.ρ k x) : ∃ q : Key, k = kW q ∧ x = kV q := by
  cases k <;> simp [isKey] at h
  · cases r
    exact ⟨.inl _, rfl, rfl⟩
  · cases r
    exact ⟨.inr _, rfl, rfl⟩
theorem dget_rel {q : Key} : ∀ {us : List W} {kvs : List (Key × V)}, VRs B g.G g.ρ us (kvs.map (·.2)) →
    (∀ w, dget (kW q) (kvs.map fun p => kW p.1) us = some w → ∃ v, valV kvs q = some v ∧ VR B g.G g.ρ w v) ∧ (dget (kW q) (kvs.map fun p => kW p.1) us = none → valV kvs q = none)
  | us, [], h => by
    simp only [List.map_nil]
    cases us <;> simp [dget, valV]
  | us, (k, v) :: kvs, h => by
    cases us with
    | nil =>
      have := h.length
      simp at this
    | cons u us =>
      simp only [VRs, List.map_cons] at h
      obtain ⟨v', vs', e, h1, h2⟩ := h
      injection e with e1 e2
      subst e1 e2
      have ih := dget_rel (q := q) h2
      simp only [List.map_cons, dget]
      by_cases hk : k = q
      · subst hk
        rw [if_pos rfl, valV_pos rfl]
        exact ⟨fun w e => by cases e; exact ⟨v, rfl, h1⟩, fun e => by cases e⟩
      · rw [if_neg (fun z => hk (kW_inj z)), valV_neg hk]
        exact ih
theorem dget_some {q : Key} {us : List W} {kvs : List (Key × V)} (h : VRs B g.G g.ρ us (kvs.map (·.2))) : (dget (kW q) (kvs.map fun p => kW p.1) us).isSome = (valV kvs q).isSome := by
  cases e : dget (kW q) (kvs.map fun p => kW p.1) us with
  | none => rw [(dget_rel h).2 e]; rfl
  | some w =>
    obtain ⟨v, e2, _⟩ := (dget_rel h).1 w e
    rw [e2]; rfl

/-- in, not in -/
theorem inW_ok {u v : W} {x y : V} {b : Bool} (hK : X.K = B.K) (hu : X.A.units + 65 < cLine) (M : MR B g m H) (hx : RD B g H u x) (hy : RD B g H v y) (e : inW u v = some b) :
    (∀ Q : VK, Q (.bl b) H → rAny X (compareOp .In) x y H Q) ∧ (∀ Q : VK, Q (.bl (!b)) H → rAny X (compareOp .NotIn) x y H Q) := by
  have hu1 : X.A.units + 1 < cLine := by omega
  unfold inW at e
  split at e
  · cases e
    cases hx
    cases hy
    exact ⟨fun Q q => ⟨_, op_in_str, _, _, rfl, rfl, q⟩, fun Q q => ⟨_, op_notin_str, _, _, rfl, rfl, q⟩⟩
  · rename_i ys
    obtain ⟨a, vs, rfl, qa, ra⟩ := hy
    unfold inS at e
    split at e
    · rename_i hf
      simp only [Bool.and_eq_true] at hf
      obtain ⟨f1, f2⟩ := flatRel ra hf.2
      have hx' := hx.flat hf.1
      have f3 := f2 hf.1 hx'
      cases e
      have f4 := hx'.flat hf.1
      have e5 : inV x vs = ys.any (fun z => eqF z u) := f3
      exact ⟨fun Q q => ⟨_, op_in_seq, a, vs, rfl, .inl (.inl (.inl qa)), f4, f1, by rw [if_neg (by decide), e5]; exact q⟩,
        fun Q q => ⟨_, op_notIn_seq, a, vs, rfl, .inl (.inl (.inl qa)), f4, f1, by rw [if_pos rfl, e5]; exact q⟩⟩
    · split at e
      · rename_i d ds h1 h2
        split at e
        · rename_i hs
          simp only [Bool.and_eq_true] at hs
          cases e
          have dx : Dp X.K H x d := by rw [hK]; exact dpR M hx h1
          have dy : Dp X.K H (.ref a) (.list ds) := by rw [hK]; exact .lst (SqL.of qa) (dpRs M ra h2)
          exact ⟨fun Q q => ⟨_, op_inD hu, d, ds, dx, dy, hs.1, hs.2, q⟩, fun Q q => ⟨_, op_notInD hu, d, ds, dx, dy, hs.1, hs.2, q⟩⟩
        · cases e
      · cases e
  · rename_i ys
    have hy' : VR B g.G g.ρ (.tup ys) y := hy
    simp only [VR] at hy'
    obtain ⟨a, vs, rfl, qa, ra⟩ := hy'
    have qa' : SqT X.K H a vs := by rw [hK]; exact SqT.mr M qa
    unfold inS at e
    split at e
    · rename_i hf
      simp only [Bool.and_eq_true] at hf
      obtain ⟨f1, f2⟩ := flatRel ra hf.2
      have hx' := hx.flat hf.1
      have f3 := f2 hf.1 hx'
      cases e
      have f4 := hx'.flat hf.1
      have e5 : inV x vs = ys.any (fun z => eqF z u) := f3
      exact ⟨fun Q q => ⟨_, op_in_seq, a, vs, rfl, .inr qa', f4, f1, by rw [if_neg (by decide), e5]; exact q⟩,
        fun Q q => ⟨_, op_notIn_seq, a, vs, rfl, .inr qa', f4, f1, by rw [if_pos rfl, e5]; exact q⟩⟩
    · split at e
      · rename_i d ds h1 h2
        split at e
        · rename_i hs
          simp only [Bool.and_eq_true] at hs
          cases e
          have dx : Dp X.K H x d := by rw [hK]; exact dpR M hx h1
          have dy : Dp X.K H (.ref a) (.tuple ds) := .tup qa' (by rw [hK]; exact dpRs M ra h2)
          exact ⟨fun Q q => ⟨_, op_inDT hu, d, ds, dx, dy, hs.1, hs.2, q⟩, fun Q q => ⟨_, op_notInDT hu, d, ds, dx, dy, hs.1, hs.2, q⟩⟩
        · cases e
      · cases e
  · rename_i n ks us
    split at e
    · rename_i hk
      cases e
      obtain ⟨a, kvs, rfl, rfl, hd, rfl, rv⟩ := hy
      have hx' := hx.flat (w := u) (by cases u <;> simp [isKey] at hk <;> rfl)
      obtain ⟨q, rfl, rfl⟩ := keyV hk hx'
      have dg : DGet H a (kV q) (valV kvs q) := .inl ⟨kvs, q, hd, rfl, rfl⟩
      rw [dget_some rv]
      exact ⟨fun Q z => ⟨_, op_inDict hu1, a, _, rfl, dg, z⟩, fun Q z => ⟨_, op_notInDict hu1, a, _, rfl, dg, z⟩⟩
    · cases e
  · cases e
theorem RD.isN {u : W} {x : V} (h : RD B g H u x) : decide (x = .non) = isNon u := by
  cases u with
  | non => cases h; rfl
  | bl b => cases h; rfl
  | int b => cases h; rfl
  | str b => cases h; rfl
  | tup xs =>
    have h' : VR B g.G g.ρ (.tup xs) x := h
    simp only [VR] at h'
    obtain ⟨a, _, rfl, _⟩ := h'
    rfl
  | lst xs =>
    obtain ⟨a, _, rfl, _⟩ := h
    rfl
  | dct n ks us =>
    obtain ⟨a, _, rfl, _⟩ := h
    rfl
  | ins c fs =>
    obtain ⟨a, _, _, rfl, _⟩ := h
    rfl
  | exc c fs =>
    obtain ⟨a, _, _, rfl, _⟩ := h
    rfl
  | cell i => exact h.elim
  | scr ns =>
    obtain ⟨a, rfl, _⟩ := h
    rfl
theorem strsW_rel : ∀ {ws : List W} {vs : List V} {ns : List Str}, VRs B g.G g.ρ ws vs → strsW ws = some ns → vs = ns.map V.str
  | [], vs, ns, h, e => by
    simp only [strsW] at e
    cases e
    simp only [VRs] at h
    exact h
  | w :: ws, vs, ns, h, e => by
    simp only [VRs] at h
    obtain ⟨u, us, rfl, h1, h2⟩ := h
    cases w <;> simp only [strsW] at e <;> try cases e
    split at e
    · rename_i ss hs
      cases e
      cases h1
      rw [List.map_cons, strsW_rel h2 hs]
    · cases e

/-! ### the order of tuples of texts -/
theorem lexAt_shift {e r : Nat → Bool} {z : Bool} : ∀ (k i : Nat), Ob.lexAt e r z (i + 1) k = Ob.lexAt (fun j => e (j + 1)) (fun j => r (j + 1)) z i k
  | 0, _ => rfl
  | k + 1, i => by
    rw [Ob.lexAt_succ, Ob.lexAt_succ, lexAt_shift k (i + 1)]
theorem lexAt_lt : ∀ (ss ts : List Str), Ob.lexAt (fun j => decide (ss.getD j Str.empty = ts.getD j Str.empty)) (fun j => strLt (ss.getD j Str.empty) (ts.getD j Str.empty)) (decide (ss.length < ts.length)) 0 (min ss.length ts.length) = lexLt ss ts
  | [], [] => rfl
  | [], _ :: _ => by simp [Ob.lexAt, lexLt]
  | _ :: _, [] => by simp [Ob.lexAt, lexLt]
  | x :: xs, y :: ys => by
    have hm : min (x :: xs).length (y :: ys).length = min xs.length ys.length + 1 := by simp only [List.length_cons]; omega
    rw [hm, Ob.lexAt_succ, lexAt_shift]
    have ih := lexAt_lt xs ys
    simp only [List.getD_cons_zero, List.getD_cons_succ, decide_eq_true_eq, List.length_cons, Nat.add_lt_add_iff_right] at ih ⊢
    rw [ih]
    simp only [lexLt]
theorem lexAt_ge : ∀ (ss ts : List Str), Ob.lexAt (fun j => decide (ss.getD j Str.empty = ts.getD j Str.empty)) (fun j => !strLt (ss.getD j Str.empty) (ts.getD j Str.empty)) (decide (ss.length ≥ ts.length)) 0 (min ss.length ts.length) = !lexLt ss ts
  | [], [] => rfl
  | [], _ :: _ => by simp [Ob.lexAt, lexLt]
  | _ :: _, [] => by simp [Ob.lexAt, lexLt]
  | x :: xs, y :: ys => by
    have hm : min (x :: xs).length (y :: ys).length = min xs.length ys.length + 1 := by simp only [List.length_cons]; omega
    rw [hm, Ob.lexAt_succ, lexAt_shift]
    have ih := lexAt_ge xs ys
    simp only [List.getD_cons_zero, List.getD_cons_succ, decide_eq_true_eq, List.length_cons, ge_iff_le, Nat.add_le_add_iff_right] at ih ⊢
    rw [ih]
    simp only [lexLt]
    split <;> rfl
theorem str_at : ∀ {vs : List Value} {ss : List Str}, PyProof.Rows.StrsAre vs ss → ∀ (i : Nat) (v : Value), vs[i]? = some v → ∃ t, v = .str (ss.getD i Str.empty) t
  | _, _, .nil, i, v, h => by simp at h
  | _, _, .cons n t hr, 0, v, h => by simp at h; exact ⟨t, by rw [← h]; rfl⟩
  | _, _, .cons n t hr, i + 1, v, h => by
    simp only [List.getElem?_cons_succ] at h
    obtain ⟨t', e⟩ := str_at hr i v h
    exact ⟨t', by rw [e]; rfl⟩
theorem op_ltTS (hu : X.A.units < cLine) : OpR X (compareOp .Lt) (fun x y H Q => ∃ a b ss ts, x = .ref a ∧ y = .ref b ∧ SqT X.K H a (ss.map V.str) ∧ SqT X.K H b (ts.map V.str) ∧ Q (.bl (lexLt ss ts)) H) := by
  intro pins s σ H x y v u Q I rx ry h
  obtain ⟨a, b, ss, ts, rfl, rfl, ha, hb, q⟩ := h
  cases rx
  cases ry
  obtain ⟨its, r1, p1, _⟩ := I.tuple ha
  obtain ⟨its2, r2, p2, _⟩ := I.tuple hb
  have i1 := Vals.strs r1
  have i2 := Vals.strs r2
  have e1 : its.toArray.size = ss.length := by rw [List.size_toArray]; have := r1.length; simpa using this.symm
  have e2 : its2.toArray.size = ts.length := by rw [List.size_toArray]; have := r2.length; simpa using this.symm
  have at1 : ∀ j (h1 : j < its.toArray.size), ∃ t, its.toArray[j] = .str (ss.getD j Str.empty) t := fun j h1 => str_at i1 _ _ (by simp at h1; simp [h1])
  have at2 : ∀ j (h1 : j < its2.toArray.size), ∃ t, its2.toArray[j] = .str (ts.getD j Str.empty) t := fun j h1 => str_at i2 _ _ (by simp at h1; simp [h1])
  have R := Ob.RcOp.tuples_lt (A := X.A) (s := s) (e := fun j => decide (ss.getD j Str.empty = ts.getD j Str.empty)) (r := fun j => strLt (ss.getD j Str.empty) (ts.getD j Str.empty)) p1 p2 hu (fun j h1 h2 => by
    obtain ⟨t, et⟩ := at1 j h1
    obtain ⟨t', et'⟩ := at2 j h2
    rw [et, et']
    have z : (ss.getD j Str.empty == ts.getD j Str.empty) = decide (ss.getD j Str.empty = ts.getD j Str.empty) := by
      by_cases q : ss.getD j Str.empty = ts.getD j Str.empty
      · rw [decide_eq_true q]; exact beq_iff_eq.mpr q
      · rw [decide_eq_false q]; exact beq_eq_false_iff_ne.mpr q
    rw [← z]
    exact SeqAt.EqAt.str_str _ _ _ _) (fun j h1 h2 _ => by
    obtain ⟨t, et⟩ := at1 j h1
    obtain ⟨t', et'⟩ := at2 j h2
    rw [et, et']
    exact fun _ _ _ _ h => PyProof.Rows.lt_str h)
  rw [e1, e2, lexAt_lt] at R
  exact R X.prog X.w X.xe (EP X pins σ Q) ⟨.bl _, H, I, rfl, q⟩
theorem op_geTS (hu : X.A.units < cLine) : OpR X (compareOp .GtE) (fun x y H Q => ∃ a b ss ts, x = .ref a ∧ y = .ref b ∧ SqT X.K H a (ss.map V.str) ∧ SqT X.K H b (ts.map V.str) ∧ Q (.bl (!lexLt ss ts)) H) := by
  intro pins s σ H x y v u Q I rx ry h
  obtain ⟨a, b, ss, ts, rfl, rfl, ha, hb, q⟩ := h
  cases rx
  cases ry
  obtain ⟨its, r1, p1, _⟩ := I.tuple ha
  obtain ⟨its2, r2, p2, _⟩ := I.tuple hb
  have i1 := Vals.strs r1
  have i2 := Vals.strs r2
  have e1 : its.toArray.size = ss.length := by rw [List.size_toArray]; have := r1.length; simpa using this.symm
  have e2 : its2.toArray.size = ts.length := by rw [List.size_toArray]; have := r2.length; simpa using this.symm
  have at1 : ∀ j (h1 : j < its.toArray.size), ∃ t, its.toArray[j] = .str (ss.getD j Str.empty) t := fun j h1 => str_at i1 _ _ (by simp at h1; simp [h1])
  have at2 : ∀ j (h1 : j < its2.toArray.size), ∃ t, its2.toArray[j] = .str (ts.getD j Str.empty) t := fun j h1 => str_at i2 _ _ (by simp at h1; simp [h1])
  have R := Ob.RcOp.tuples_ge (A := X.A) (s := s) (e := fun j => decide (ss.getD j Str.empty = ts.getD j Str.empty)) (r := fun j => !strLt (ss.getD j Str.empty) (ts.getD j Str.empty)) p1 p2 hu (fun j h1 h2 => by
    obtain ⟨t, et⟩ := at1 j h1
    obtain ⟨t', et'⟩ := at2 j h2
    rw [et, et']
    have z : (ss.getD j Str.empty == ts.getD j Str.empty) = decide (ss.getD j Str.empty = ts.getD j Str.empty) := by
      by_cases q : ss.getD j Str.empty = ts.getD j Str.empty
      · rw [decide_eq_true q]; exact beq_iff_eq.mpr q
      · rw [decide_eq_false q]; exact beq_eq_false_iff_ne.mpr q
    rw [← z]
    exact SeqAt.EqAt.str_str _ _ _ _) (fun j h1 h2 _ => by
    obtain ⟨t, et⟩ := at1 j h1
    obtain ⟨t', et'⟩ := at2 j h2
    rw [et, et']
    exact fun _ _ _ _ h => PySem.P.ge_str h)
  rw [e1, e2, lexAt_ge] at R
  exact R X.prog X.w X.xe (EP X pins σ Q) ⟨.bl _, H, I, rfl, q⟩
theorem opL_str : OpR X (compareOp .LtE) (fun x y H Q => ∃ i j, x = .str i ∧ y = .str j ∧ Q (.bl (!strLt j i)) H) := op_le_str
/-! ### dicts -/
theorem hitsB {A : Around} {s : Shared} {ls : List (Key × V)} {vb : List (Key × Value)} (rb : KV ls vb) (fl : ∀ k v, valV ls k = some v → flatV v = true) {ks : List (Key × V)} {va : List (Key × Value)} (ra : KV ks va) (fk : ∀ p ∈ ks, flatV p.2 = true) :
    PySem.W.KeqHits A s vb va (ks.all fun p => match valV ls p.1 with | some v => eqV p.2 v | none => false) := by
  unfold KV at ra
  induction ra with
  | nil => exact .nil
  | @cons p q ps qs h t ih =>
    obtain ⟨h1, h2⟩ := h
    obtain ⟨k, v⟩ := q
    have h1' : p.1 = k := h1
    have ih' := ih fun p' hm => fk p' (List.mem_cons_of_mem _ hm)
    have rr : RelO (valV ls p.1) (valueAt vb p.1) := rb.val p.1
    rw [List.all_cons]
    cases e : valV ls p.1 with
    | none =>
      rw [e] at rr
      rw [h1'] at rr
      have hn : valueAt vb k = none := RelO.none_of rr
      simp only [Bool.false_and]
      exact .miss hn
    | some v' =>
      rw [e] at rr
      obtain ⟨y, hy, ry⟩ := rr.some_of
      rw [h1'] at hy
      exact .hit hy (eqAt_V h2 ry (fk p List.mem_cons_self) (fl _ _ e)) ih'
theorem valV_mem {ls : List (Key × V)} {k : Key} {v : V} (h : valV ls k = some v) : (k, v) ∈ ls := by
  unfold valV at h
  cases e : ls.find? fun kv => decide (kv.1 = k) with
  | none => rw [e] at h; cases h
  | some p =>
    rw [e] at h
    cases h
    have h1 := List.find?_some e
    have h2 := List.mem_of_find?_eq_some e
    have h3 : p.1 = k := of_decide_eq_true h1
    rw [← h3]
    exact h2
theorem op_eqDB (hu : X.A.units < cLine) : OpR X (compareOp .Eq) (fun x y H Q => ∃ a b ks ls, x = .ref a ∧ y = .ref b ∧ Rd H a (.dK ks) ∧ Rd H b (.dK ls) ∧ (∀ p ∈ ks, flatV p.2 = true) ∧ (∀ p ∈ ls, flatV p.2 = true) ∧ Q (.bl (decide (ks.length = ls.length) && ks.all fun p => match valV ls p.1 with | some v => eqV p.2 v | none => false)) H) := by
  intro pins s σ H x y v u Q I rx ry h
  obtain ⟨a, b, ks, ls, rfl, rfl, ea, eb, f1, f2, q⟩ := h
  cases rx
  cases ry
  obtain ⟨_, ya, va, ra, da⟩ := (show ObjOk X.prog X.w H s.heap a (.dK ks) from ea.ok I.hok)
  obtain ⟨_, yb, vb, rb, db⟩ := (show ObjOk X.prog X.w H s.heap b (.dK ls) from eb.ok I.hok)
  have e : (va.length == vb.length) = decide (ks.length = ls.length) := by rw [← ra.length, ← rb.length, Bool.beq_eq_decide_eq]
  exact PySem.W.keq_eq (knd := mixKind X.prog X.w) ya yb da db hu (fun _ => hitsB rb (fun k v z => f2 (k, v) (valV_mem z)) ra f1) (by rw [e]; exact ⟨.bl _, H, I, rfl, q⟩)
theorem op_neDB (hu : X.A.units < cLine) : OpR X (compareOp .NotEq) (fun x y H Q => ∃ a b ks ls, x = .ref a ∧ y = .ref b ∧ Rd H a (.dK ks) ∧ Rd H b (.dK ls) ∧ (∀ p ∈ ks, flatV p.2 = true) ∧ (∀ p ∈ ls, flatV p.2 = true) ∧ Q (.bl (!(decide (ks.length = ls.length) && ks.all fun p => match valV ls p.1 with | some v => eqV p.2 v | none => false))) H) := by
  intro pins s σ H x y v u Q I rx ry h
  obtain ⟨a, b, ks, ls, rfl, rfl, ea, eb, f1, f2, q⟩ := h
  cases rx
  cases ry
  obtain ⟨_, ya, va, ra, da⟩ := (show ObjOk X.prog X.w H s.heap a (.dK ks) from ea.ok I.hok)
  obtain ⟨_, yb, vb, rb, db⟩ := (show ObjOk X.prog X.w H s.heap b (.dK ls) from eb.ok I.hok)
  have e : (va.length == vb.length) = decide (ks.length = ls.length) := by rw [← ra.length, ← rb.length, Bool.beq_eq_decide_eq]
  exact PySem.W.keq_ne (knd := mixKind X.prog X.w) ya yb da db hu (fun _ => hitsB rb (fun k v z => f2 (k, v) (valV_mem z)) ra f1) (by rw [e]; exact ⟨.bl _, H, I, rfl, q⟩)
theorem flatVs : ∀ {us : List W} {vs : List V}, VRs B g.G g.ρ us vs → us.all flatW = true → ∀ v ∈ vs, flatV v = true
  | [], vs, h, _, v, hv => by
    simp only [VRs] at h
    subst h
    cases hv
  | u :: us, vs, h, f, v, hv => by
    simp only [VRs] at h
    obtain ⟨w, ws, rfl, h1, h2⟩ := h
    simp only [List.all_cons, Bool.and_eq_true] at f
    rcases List.mem_cons.mp hv with rfl | hv
    · exact h1.flat f.1
    · exact flatVs h2 f.2 v hv
theorem eqF_V {u w : W} {x y : V} (hx : VR B g.G g.ρ u x) (hy : VR B g.G g.ρ w y) (fu : flatW u = true) (fw : flatW w = true) : eqF u w = eqV x y := by
  cases u <;> first | (exfalso; simp [flatW] at fu; done) | (cases hx; cases w <;> first | (exfalso; simp [flatW] at fw; done) | (cases hy; rfl))
theorem dget_mem {q : W} : ∀ {js us : List W} {w : W}, dget q js us = some w → w ∈ us
  | [], us, w, h => by cases us <;> simp [dget] at h
  | j :: js, [], w, h => by simp [dget] at h
  | j :: js, u :: us, w, h => by
    simp only [dget] at h
    split at h
    · cases h; exact List.mem_cons_self
    · exact List.mem_cons_of_mem _ (dget_mem h)
theorem dsub_rel {ls : List (Key × V)} {us : List W} (hu : VRs B g.G g.ρ us (ls.map (·.2))) (fu : us.all flatW = true) : ∀ {ks : List (Key × V)} {vs : List W}, VRs B g.G g.ρ vs (ks.map (·.2)) → vs.all flatW = true →
    dsub (ls.map fun p => kW p.1) us (ks.map fun p => kW p.1) vs = ks.all fun p => match valV ls p.1 with | some v => eqV p.2 v | none => false
  | [], vs, h, _ => by
    simp only [List.map_nil, VRs] at h
    cases vs with
    | nil => rfl
    | cons _ _ => simp only [VRs] at h; obtain ⟨_, _, z, _⟩ := h; cases z
  | (k, v) :: ks, vs, h, f => by
    cases vs with
    | nil => have := h.length; simp at this
    | cons w vs =>
      simp only [VRs, List.map_cons] at h
      obtain ⟨v', vs', e, h1, h2⟩ := h
      injection e with e1 e2
      subst e1 e2
      simp only [List.all_cons, Bool.and_eq_true] at f
      have ih := dsub_rel hu fu h2 f.2
      simp only [List.map_cons, dsub, List.all_cons, ih]
      congr 1
      have dr := dget_rel (q := k) hu
      cases e : dget (kW k) (ls.map fun p => kW p.1) us with
      | none => rw [dr.2 e]
      | some w2 =>
        obtain ⟨v2, z1, z2⟩ := dr.1 w2 e
        rw [z1]
        exact eqF_V h1 z2 f.1 (List.all_eq_true.mp fu w2 (dget_mem e))
theorem eqDct_ok {n n' : Bool} {ks vs js us : List W} {x y : V} {b : Bool} (hu : X.A.units < cLine) (M : MR B g m H) (hx : RD B g H (.dct n ks vs) x) (hy : RD B g H (.dct n' js us) y) (e : eqDct ks vs js us = some b) :
    (∀ Q : VK, Q (.bl b) H → rAny X (compareOp .Eq) x y H Q) ∧ (∀ Q : VK, Q (.bl (!b)) H → rAny X (compareOp .NotEq) x y H Q) := by
  unfold eqDct at e
  split at e
  case isFalse => cases e
  rename_i hf
  simp only [Bool.and_eq_true] at hf
  cases e
  obtain ⟨a, k1, rfl, _, qa, rfl, ra⟩ := hx
  obtain ⟨c, k2, rfl, _, qc, rfl, rc⟩ := hy
  have f1 : ∀ p ∈ k1, flatV p.2 = true := fun p hp => flatVs ra hf.1 p.2 (List.mem_map_of_mem hp)
  have f2 : ∀ p ∈ k2, flatV p.2 = true := fun p hp => flatVs rc hf.2 p.2 (List.mem_map_of_mem hp)
  have e : (decide ((k1.map fun p => kW p.1).length = (k2.map fun p => kW p.1).length) && dsub (k2.map fun p => kW p.1) us (k1.map fun p => kW p.1) vs) = (decide (k1.length = k2.length) && k1.all fun p => match valV k2 p.1 with | some v => eqV p.2 v | none => false) := by
    rw [dsub_rel rc hf.2 ra hf.1]
    simp
  rw [e]
  exact ⟨fun Q q => ⟨_, op_eqDB hu, a, c, k1, k2, rfl, rfl, qa, qc, f1, f2, q⟩, fun Q q => ⟨_, op_neDB hu, a, c, k1, k2, rfl, rfl, qa, qc, f1, f2, q⟩⟩
/-- any comparison of values that are no objects of one's own -/
theorem cmpV_ok {op : Cop} {u v : W} {x y : V} {b : Bool} (hK : X.K = B.K) (hu : X.A.units + 65 < cLine) (M : MR B g m H) (hx : RD B g H u x) (hy : RD B g H v y) (e : cmpV op u v = some b)
    {Q : VK} (q : Q (.bl b) H) : rAny X (compareOp op.py) x y H Q := by
  unfold cmpV at e
  split at e
  · exact (eqDct_ok (by omega) M hx hy e).1 Q q
  · split at e
    · rename_i b' e'
      cases e
      exact (eqDct_ok (by omega) M hx hy e').2 Q q
    · cases e
  · exact (eqW_ok hK (by omega) M hx hy e).1 Q q
  · split at e
    · rename_i b' e'
      cases e
      exact (eqW_ok hK (by omega) M hx hy e').2 Q q
    · cases e
  · cases e; cases hx; cases hy
    exact ⟨_, op_lt, _, _, rfl, rfl, q⟩
  · cases e; cases hx; cases hy
    exact ⟨_, op_le, _, _, rfl, rfl, q⟩
  · cases e; cases hx; cases hy
    exact ⟨_, op_gt, _, _, rfl, rfl, q⟩
  · cases e; cases hx; cases hy
    exact ⟨_, op_ge, _, _, rfl, rfl, q⟩
  · cases e; cases hx; cases hy
    exact ⟨_, op_lt_str, _, _, rfl, rfl, q⟩
  · cases e; cases hx; cases hy
    exact ⟨_, op_le_str, _, _, rfl, rfl, q⟩
  · cases e; cases hx; cases hy
    exact ⟨_, op_gt_str, _, _, rfl, rfl, q⟩
  · cases e; cases hx; cases hy
    exact ⟨_, op_ge_str, _, _, rfl, rfl, q⟩
  · split at e
    · rename_i s1 s2 h1 h2
      cases e
      have hx' : VR B g.G g.ρ (.tup _) x := hx
      have hy' : VR B g.G g.ρ (.tup _) y := hy
      simp only [VR] at hx' hy'
      obtain ⟨a, vs, rfl, qa, ra⟩ := hx'
      obtain ⟨c, us, rfl, qc, rc⟩ := hy'
      refine ⟨_, op_ltTS (by omega), a, c, s1, s2, rfl, rfl, ?_, ?_, q⟩
      · rw [hK, ← strsW_rel ra h1]; exact SqT.mr M qa
      · rw [hK, ← strsW_rel rc h2]; exact SqT.mr M qc
    · cases e
  · split at e
    · rename_i s1 s2 h1 h2
      cases e
      have hx' : VR B g.G g.ρ (.tup _) x := hx
      have hy' : VR B g.G g.ρ (.tup _) y := hy
      simp only [VR] at hx' hy'
      obtain ⟨a, vs, rfl, qa, ra⟩ := hx'
      obtain ⟨c, us, rfl, qc, rc⟩ := hy'
      refine ⟨_, op_geTS (by omega), a, c, s1, s2, rfl, rfl, ?_, ?_, q⟩
      · rw [hK, ← strsW_rel ra h1]; exact SqT.mr M qa
      · rw [hK, ← strsW_rel rc h2]; exact SqT.mr M qc
    · cases e
  · exact (inW_ok hK hu M hx hy e).1 Q q
  · split at e
    · rename_i b' e'
      cases e
      exact (inW_ok hK hu M hx hy e').2 Q q
    · cases e
  · cases e; cases hy
    refine ⟨_, op_isN, rfl, ?_⟩
    rw [RD.isN hx]
    exact q
  · cases e; cases hy
    refine ⟨_, op_notN, rfl, ?_⟩
    rw [RD.isN hx]
    exact q
  · cases e
end
end Mi

set_option Elab.async false
set_option linter.all false
set_option maxRecDepth 100000
set_option maxHeartbeats 1000000
/-! Mi6: items, slices, built-ins by values. -/
namespace Mi
open PySem PySem.Spec L2
open PyProof.Rows (Fr News)

section
variable {B : Tb} {X : Cx} {g : Gh} {H Hs : Hp} {m : List Ob} {env : List Sl} {σ : List (Option V)}

theorem RD.tupE {xs : List W} {x : V} (h : RD B g H (.tup xs) x) : ∃ a vs, x = .ref a ∧ SqT B.K g.G a vs ∧ VRs B g.G g.ρ xs vs := by
  have h' : VR B g.G g.ρ (.tup xs) x := h
  simp only [VR] at h'
  exact h'
theorem ixN_len {xs : List W} {vs : List V} (h : VRs B g.G g.ρ xs vs) (i : Int) : ixN xs.length i = ixN vs.length i := by rw [h.length]
theorem atI_rel {xs : List W} {vs : List V} {i : Int} {w : W} (h : VRs B g.G g.ρ xs vs) (e : atI xs i = some w) : ∃ v, atI vs i = some v ∧ VR B g.G g.ρ w v := by
  unfold atI at e ⊢
  rw [h.length] at e
  cases q : ixN vs.length i with
  | none => rw [q] at e; cases e
  | some j =>
    rw [q] at e
    exact h.get e
theorem atI_mapI {ns : List Int} {i n : Int} (hn : atI ns i = some n) : atI (ns.map V.int) i = some (V.int n) := by
  unfold atI at hn ⊢
  rw [List.length_map]
  cases q : ixN ns.length i with
  | none => rw [q] at hn; cases hn
  | some j =>
    rw [q] at hn
    show (List.map V.int ns)[j]? = _
    have hn' : ns[j]? = some n := hn
    rw [List.getElem?_map, hn']
    rfl
theorem ix_dK (hu : X.A.units + 1 < cLine) : IxR X (fun x y H Q => ∃ a v, x = .ref a ∧ DGet H a y (some v) ∧ Q v H) := by
  intro value slice pins s σ H x y v u Q I rx ry h hs
  obtain ⟨p, z, rfl, hg, q⟩ := h
  obtain rfl : v = Value.ref p := rx
  exact PyProof.Rows.tail_any (dict_typeIs I hg) PySem.F.slot_dict_getitem.lookup (d_getItem hu I hg ry fun w' s' I' r => ⟨z, H, I', r, q⟩) hs
/-- a[i] by values -/
theorem ixV_ok {u k w : W} {x y : V} {Q : VK} (hK : X.K = B.K) (hu : X.A.units + 1 < cLine) (M : MR B g m H) (hx : RD B g H u x) (hy : VR B g.G g.ρ k y) (e : ixV u k = some w)
    (q : ∀ z, VR B g.G g.ρ w z → Q z H) : iAny X x y H Q := by
  unfold ixV at e
  split at e
  · split at e
    · rename_i n hn
      cases e
      obtain ⟨a, rfl, qa⟩ := hx
      cases hy
      exact ⟨_, ix_list, a, _, _, _, rfl, rfl, by rw [hK]; exact qa, atI_mapI hn, q _ rfl⟩
    · cases e
  · obtain ⟨a, vs, rfl, qa, ra⟩ := hx
    cases hy
    obtain ⟨v, e2, rv⟩ := atI_rel ra e
    exact ⟨_, ix_list, a, vs, _, v, rfl, rfl, SqL.of qa, e2, q v rv⟩
  · obtain ⟨a, vs, rfl, qa, ra⟩ := RD.tupE hx
    cases hy
    obtain ⟨v, e2, rv⟩ := atI_rel ra e
    exact ⟨_, ix_tup, a, vs, _, v, rfl, rfl, by rw [hK]; exact SqT.mr M qa, e2, q v rv⟩
  · split at e
    · rename_i c hc
      split at e
      · rename_i hz
        cases e
        cases hx
        cases hy
        exact ⟨_, ix_str, _, _, c, rfl, rfl, hz, hc, q _ rfl⟩
      · cases e
    · cases e
  · rename_i n ks us _
    split at e
    · rename_i hk
      obtain ⟨a, kvs, rfl, rfl, hd, rfl, rv⟩ := hx
      obtain ⟨q', rfl, rfl⟩ := keyV hk hy
      obtain ⟨v, e2, r2⟩ := (dget_rel rv).1 w e
      exact ⟨_, ix_dK hu, a, v, rfl, .inl ⟨kvs, q', hd, rfl, e2.symm⟩, q v r2⟩
    · cases e
  · cases e

theorem cutV_whole {vs : List V} {lo hi : Option Int} (h : HT.sIx vs.length 0 lo = 0 ∧ HT.sIx vs.length vs.length hi = vs.length) : cutV vs lo hi = vs := by
  unfold cutV
  rw [h.1, h.2]
  simp
theorem sliceV_ok {u : W} {x : V} {lo hi : Option Int} {r : RV} {Q : VK} (hK : X.K = B.K) (M : MR B g m H) (hx : RD B g H u x) (e : sliceV u lo hi = some r)
    (q : ∀ g' z H', Ev g H g' H' → MR B g' m H' → RR B g' env σ H' H r z → Q z H') : sAny X x lo hi H Q := by
  unfold sliceV at e
  split at e
  · rename_i xs
    cases e
    obtain ⟨a, vs, rfl, qa, ra⟩ := hx
    refine ⟨_, sl_list, a, vs, rfl, SqL.of qa, fun p hp => ?_⟩
    exact q g _ _ (Ev.new hp) (MR.new M hp) (RR.mk M hp hp ⟨_, upd_same, cutV_rel ra lo hi⟩)
  · rename_i xs
    cases e
    obtain ⟨a, vs, rfl, qa, ra⟩ := RD.tupE hx
    refine ⟨_, sl_tupA, a, vs, rfl, by rw [hK]; exact SqT.mr M qa, fun hw => ?_, fun _ p hp => ?_⟩
    · refine q g _ H Ev.refl M ?_
      show VR B _ _ (.tup (cutW xs lo hi)) _
      simp only [VR]
      refine ⟨a, vs, rfl, qa, ?_⟩
      have := cutV_rel ra lo hi
      rw [cutV_whole hw] at this
      exact this
    · refine q _ _ _ (Ev.pure M hp) (MR.pure M hp) ?_
      show VR B _ _ (.tup (cutW xs lo hi)) _
      simp only [VR]
      exact ⟨p, cutV vs lo hi, rfl, .inl (.inl upd_same), VRs.up (Ev.pure (o := .tup (cutV vs lo hi)) M hp).gk ⟨[], by simp [Gh.frz]⟩ _ _ (cutV_rel ra lo hi)⟩
  · split at e
    · rename_i hz
      cases e
      cases hx
      exact ⟨_, sl_str, _, rfl, hz, q g _ H Ev.refl M rfl⟩
    · cases e
  · cases e

/-! ### lists of ints, of texts -/
theorem intsW_rel : ∀ {ws : List W} {vs : List V} {ns : List Int}, VRs B g.G g.ρ ws vs → intsW ws = some ns → vs = ns.map V.int
  | [], vs, ns, h, e => by
    simp only [intsW] at e
    cases e
    simp only [VRs] at h
    exact h
  | w :: ws, vs, ns, h, e => by
    simp only [VRs] at h
    obtain ⟨u, us, rfl, h1, h2⟩ := h
    cases w <;> simp only [intsW] at e <;> try cases e
    split at e
    · rename_i ss hs
      cases e
      cases h1
      rw [List.map_cons, intsW_rel h2 hs]
    · cases e
theorem ints_VRs : ∀ (ns : List Int), VRs B g.G g.ρ (ns.map W.int) (ns.map V.int)
  | [] => VRs.nil
  | n :: ns => VRs.cons rfl (ints_VRs ns)
theorem strs_VRs : ∀ (ns : List Str), VRs B g.G g.ρ (ns.map W.str) (ns.map V.str)
  | [] => VRs.nil
  | n :: ns => VRs.cons rfl (strs_VRs ns)

/-! ### sorting -/
theorem srtIn_perm {α : Type} (le : α → α → Bool) (x : α) : ∀ ys, (srtIn le x ys).Perm (x :: ys)
  | [] => .refl _
  | y :: ys => by
    unfold srtIn
    split
    · exact .refl _
    · exact ((srtIn_perm le x ys).cons y).trans (.swap x y ys)
theorem srt_perm {α : Type} (le : α → α → Bool) : ∀ xs, (srt le xs).Perm xs
  | [] => .refl _
  | x :: xs => (srtIn_perm le x (srt le xs)).trans ((srt_perm le xs).cons x)
theorem srtIn_pw {α : Type} {le : α → α → Bool} (tot : ∀ a b, le a b = false → le b a = true) (tr : ∀ a b c, le a b = true → le b c = true → le a c = true) (x : α) : ∀ ys, ys.Pairwise (fun a b => le a b = true) → (srtIn le x ys).Pairwise (fun a b => le a b = true)
  | [], _ => by simp [srtIn]
  | y :: ys, h => by
    obtain ⟨h1, h2⟩ := List.pairwise_cons.mp h
    unfold srtIn
    split
    · rename_i hle
      refine List.pairwise_cons.mpr ⟨fun z hz => ?_, h⟩
      rcases List.mem_cons.mp hz with rfl | hz
      · exact hle
      · exact tr _ _ _ hle (h1 z hz)
    · rename_i hle
      refine List.pairwise_cons.mpr ⟨fun z hz => ?_, srtIn_pw tot tr x ys h2⟩
      rcases List.mem_cons.mp ((srtIn_perm le x ys).mem_iff.mp hz) with rfl | hz
      · exact tot _ _ (by simpa using hle)
      · exact h1 z hz
theorem srt_pw {α : Type} {le : α → α → Bool} (tot : ∀ a b, le a b = false → le b a = true) (tr : ∀ a b c, le a b = true → le b c = true → le a c = true) : ∀ xs, (srt le xs).Pairwise (fun a b => le a b = true)
  | [] => by simp [srt]
  | x :: xs => srtIn_pw tot tr x _ (srt_pw tot tr xs)
theorem srt_int {ns ns' : List Int} (hp : ns'.Perm ns) (hs : ns'.Pairwise (· ≤ ·)) : ns' = srt (fun a b => decide (a ≤ b)) ns := by
  refine List.Perm.eq_of_pairwise (le := fun a b => decide (a ≤ b) = true) (fun a b _ _ h1 h2 => ?_) (hs.imp fun h => by simpa using h) (srt_pw (fun a b h => ?_) (fun a b c h1 h2 => ?_) ns) (hp.trans (srt_perm _ ns).symm)
  · simp only [decide_eq_true_eq] at h1 h2; omega
  · simp only [decide_eq_true_eq, decide_eq_false_iff_not] at h ⊢; omega
  · simp only [decide_eq_true_eq] at h1 h2 ⊢; omega
theorem strLe_iff {a b : Str} : strLe a b = true ↔ a.cps.toList ≤ b.cps.toList := by
  unfold strLe strLt
  simp
theorem risingS_le : ∀ {p : Str} {ys : List Str}, PyProof.Rows.risingS p ys = true → (∀ y ∈ ys, strLe p y = true) ∧ ys.Pairwise (fun a b => strLe a b = true)
  | p, [], _ => ⟨fun _ h => by simp at h, by simp⟩
  | p, y :: ys, h => by
    simp only [PyProof.Rows.risingS, Bool.and_eq_true] at h
    obtain ⟨i1, i2⟩ := risingS_le h.2
    have hpy : strLe p y = true := by
      unfold strLe strLt
      rw [← PyProof.Rows.ltCps_eq]
      exact h.1
    refine ⟨fun z hz => ?_, List.pairwise_cons.mpr ⟨i1, i2⟩⟩
    rcases List.mem_cons.mp hz with rfl | hz
    · exact hpy
    · exact strLe_iff.mpr (List.le_trans (strLe_iff.mp hpy) (strLe_iff.mp (i1 z hz)))
theorem srt_str {ss ss' : List Str} (hp : ss'.Perm ss) (hs : PyProof.Rows.sortedS ss' = true) : ss' = srt strLe ss := by
  have pw : ss'.Pairwise (fun a b => strLe a b = true) := by
    cases ss' with
    | nil => simp
    | cons y ys =>
      obtain ⟨i1, i2⟩ := risingS_le hs
      exact List.pairwise_cons.mpr ⟨i1, i2⟩
  refine List.Perm.eq_of_pairwise (le := fun a b => strLe a b = true) (fun a b _ _ h1 h2 => ?_) pw (srt_pw (fun a b h => ?_) (fun a b c h1 h2 => ?_) ss) (hp.trans (srt_perm _ ss).symm)
  · have := List.le_antisymm (strLe_iff.mp h1) (strLe_iff.mp h2)
    cases a; cases b
    simp at this
    simp [this]
  · have : ¬ a.cps.toList ≤ b.cps.toList := fun z => by rw [strLe_iff.mpr z] at h; cases h
    exact strLe_iff.mpr (List.le_of_lt (by simpa using this))
  · exact strLe_iff.mpr (List.le_trans (strLe_iff.mp h1) (strLe_iff.mp h2))
theorem cr_sortedStr : CallR X (.builtin "sorted") (fun vs H Q => ∃ (a : Addr) (xs : List Str), vs = [V.ref a] ∧ SqL X.K H a (xs.map V.str) ∧
    ∀ (ys : List Str) (p : Addr), ys.Perm xs → PyProof.Rows.sortedS ys = true → H p = none → Q (.ref p) (upd H p (.lst (ys.map V.str)))) := by
  intro pins s σ H vs us Q I r h
  obtain ⟨a, ns, rfl, hs, q⟩ := h
  obtain ⟨its, rv, hl, hz⟩ := I.list hs
  rw [Vals.ref1 r]
  have hi := rv.strs
  refine PyProof.Rows.sorted_strsAny hl.isList hi (by rw [← rv.length]; exact hz) fun out ns' h1 h2 h3 => ?_
  obtain ⟨ep, he'⟩ := PyProof.Rows.sortedAll_at s.heap its out
  have hlen : (ns'.map V.str).length ≤ sizeLine := by rw [List.length_map, h2.length_eq]; simpa using hz
  exact ⟨.ref _, upd H (s.heap.objs.size + 1) (.lst (ns'.map V.str)), I.laid (t' := s.toks) (fun _ _ => PyProof.Rows.sortedAll_old) (Nat.le_succ _) ⟨hlen, out.toList, ep, vals_of_strs h1, he'⟩, rfl, q ns' _ h2 h3 (I.hok.fresh (Nat.le_succ _))⟩
end
end Mi

set_option Elab.async false
set_option linter.all false
set_option maxRecDepth 100000
set_option maxHeartbeats 1000000
/-! Mi7: built-ins by values. -/
namespace Mi
open PySem PySem.Spec L2
open PyProof.Rows (Fr News)

def Blt.callee : Blt → Value
  | .len => .builtin "len" | .int => .type "int" | .max => .builtin "max" | .min => .builtin "min" | .str => .type "str" | .repr => .builtin "repr"
  | .list => .type "list" | .tuple => .type "tuple" | .sorted => .builtin "sorted" | .sum => .builtin "sum" | .abs => .builtin "abs" | .dict => .type "dict"
  | _ => .none

section
variable {B : Tb} {X : Cx} {g : Gh} {H Hs : Hp} {m : List Ob} {env : List Sl} {σ : List (Option V)}
/-- what values read as -/
def RDs (B : Tb) (g : Gh) (H : Hp) : List W → List V → Prop
  | [], vs => vs = []
  | w :: ws, vs => ∃ u us, vs = u :: us ∧ RD B g H w u ∧ RDs B g H ws us
/-- what data reads as, dicts too -/
def keyD : Key → PyData
  | .inl i => .int i
  | .inr s => .str s
mutual
inductive Dq (K : PySem.W.Frag) (H : Hp) : V → PyData → Prop
  | non : Dq K H .non .none
  | bl (b : Bool) : Dq K H (.bl b) (.bool b)
  | int (i : Int) : Dq K H (.int i) (.int i)
  | str (x : Str) : Dq K H (.str x) (.str x)
  | lst {a : Addr} {xs : List V} {ds : List PyData} : SqL K H a xs → DqAll K H xs ds → Dq K H (.ref a) (.list ds)
  | tup {a : Addr} {xs : List V} {ds : List PyData} : SqT K H a xs → DqAll K H xs ds → Dq K H (.ref a) (.tuple ds)
  | dct {a : Addr} {kvs : List (Key × V)} {ds : List (PyData × PyData)} : Rd H a (.dK kvs) → ds.map (·.1) = kvs.map (fun p => keyD p.1) → DqAll K H (kvs.map (·.2)) (ds.map (·.2)) → Dq K H (.ref a) (.dict ds)
inductive DqAll (K : PySem.W.Frag) (H : Hp) : List V → List PyData → Prop
  | nil : DqAll K H [] []
  | cons {v : V} {vs : List V} {d : PyData} {ds : List PyData} : Dq K H v d → DqAll K H vs ds → DqAll K H (v :: vs) (d :: ds)
end
theorem DqAll.length {K : PySem.W.Frag} {H : Hp} : ∀ {vs : List V} {ds : List PyData}, DqAll K H vs ds → vs.length = ds.length
  | _, _, .nil => rfl
  | _, _, .cons _ h => by simp [DqAll.length h]
/-- the interpreter's table of modules is a dict -/
def SmK (K : PySem.W.Frag) : Prop := ∃ o, K.lookup sysModules = some o ∧ o.cls = .type "dict"
theorem keys_read {K' : PySem.W.Frag} {P : Program} {w : World} {h : Heap} : ∀ {es : List DictEntry} {vs : List (Key × Value)}, Pairs (mixKind P w) es vs → ReadsAll h (es.map (·.key)) (vs.map fun p => keyD p.1) []
  | _, _, .nil => .nil
  | e :: es, (k, v) :: vs, .cons h1 h2 h3 => by
    have ih := keys_read (K' := K') (h := h) h3
    have hk : keyIs k e.key = true := h1
    have one : Reads h e.key (keyD k) [] := by
      rcases keyIs_shape hk with ⟨i, t, rfl, q⟩ | ⟨x, t, rfl, q⟩
      · rw [q]; exact .int i t
      · rw [q]; exact .str x t
    exact ReadsAll.cons (as := []) (bs := []) one ih
theorem pairs_vals {P : Program} {w : World} : ∀ {es : List DictEntry} {vs : List (Key × Value)}, Pairs (mixKind P w) es vs → es.map (·.val) = vs.map (·.2)
  | _, _, .nil => rfl
  | e :: es, (k, v) :: vs, .cons h1 h2 h3 => by simp [pairs_vals h3, h2]
theorem kv_fst : ∀ {kvs : List (Key × V)} {vs : List (Key × Value)}, KV kvs vs → (kvs.map fun p => keyD p.1) = vs.map fun p => keyD p.1
  | _, _, .nil => rfl
  | (k, v) :: kvs, (k', v') :: vs, .cons h t => by
    have e : k = k' := h.1
    subst e
    simp [kv_fst t]
theorem kv_snd : ∀ {kvs : List (Key × V)} {vs : List (Key × Value)}, KV kvs vs → Vals (kvs.map (·.2)) (vs.map (·.2))
  | _, _, .nil => .nil
  | (k, v) :: kvs, (k', v') :: vs, .cons h t => .cons h.2 (kv_snd t)
mutual
theorem Dq.reads {pins : List (Addr × Obj)} {s : Shared} (I : Inv X pins σ H s) (sm : SmK X.K) : ∀ (d : PyData) (v : V) (u : Value), Dq X.K H v d → RelV v u → ∃ as, Reads s.heap u d as ∧ sysModules ∉ as
  | .none, _, _, h, r => by
    cases h
    cases r
    exact ⟨_, Reads.none, by simp⟩
  | .bool b, _, _, h, r => by
    cases h
    cases r
    exact ⟨_, Reads.bool b, by simp⟩
  | .int i, _, _, h, r => by
    cases h
    obtain ⟨t, rfl⟩ := r
    exact ⟨_, Reads.int i t, by simp⟩
  | .str x, _, _, h, r => by
    cases h
    obtain ⟨t, rfl⟩ := r
    exact ⟨_, Reads.str x t, by simp⟩
  | .list ds, _, _, h, r => by
    cases h with
    | @lst a _ _ hs ha =>
      cases r
      obtain ⟨its, rv, ⟨o, n, ho, hc, _, hd⟩, _⟩ := I.list hs
      obtain ⟨as, hr, hn⟩ := Dq.readsAll I sm ds _ its ha rv
      refine ⟨_, Reads.list ho hc hd hr, fun z => ?_⟩
      rcases List.mem_cons.mp z with z | z
      · obtain ⟨om, h1, h2⟩ := sm
        have e1 := I.kIn _ _ h1
        rw [z, ho] at e1
        cases e1
        rw [hc] at h2
        injection h2 with h2
        exact absurd h2 (by decide)
      · exact hn z
  | .tuple ds, _, _, h, r => by
    cases h with
    | tup hs ha =>
      cases r
      obtain ⟨its, rv, ⟨o, ho, hc, n, hd⟩, _⟩ := I.tuple hs
      obtain ⟨as, hr, hn⟩ := Dq.readsAll I sm ds _ its ha rv
      exact ⟨_, Reads.tuple ho hc hd hr, hn⟩
  | .dict ds, _, _, h, r => by
    cases h with
    | @dct a kvs _ hs hk ha =>
      cases r
      obtain ⟨hz, hsm, vs, rel, o, es, ep, ho, hex, hd, _, hp, _⟩ := (show ObjOk X.prog X.w H s.heap a (.dK kvs) from hs.ok I.hok)
      obtain ⟨bs, hr, hn⟩ := Dq.readsAll2 I sm ds _ _ ha (kv_snd rel)
      have k1 : ReadsAll s.heap (es.toList.map (·.key)) (ds.map (·.1)) [] := by
        rw [hk, kv_fst rel]
        exact keys_read (K' := X.K) hp
      have k2 : ReadsAll s.heap (es.toList.map (·.val)) (ds.map (·.2)) bs := by
        rw [pairs_vals hp]
        exact hr
      refine ⟨_, Reads.dict ho hex.1 hd k1 k2, fun z => ?_⟩
      simp only [List.append_nil, List.cons_append, List.nil_append, List.mem_cons] at z
      rcases z with z | z
      · rw [← z] at hsm
        simp at hsm
      · exact hn z
theorem Dq.readsAll {pins : List (Addr × Obj)} {s : Shared} (I : Inv X pins σ H s) (sm : SmK X.K) : ∀ (ds : List PyData) (vs : List V) (us : List Value), DqAll X.K H vs ds → Vals vs us → ∃ as, ReadsAll s.heap us ds as ∧ sysModules ∉ as
  | [], _, _, h, r => by
    cases h
    cases r
    exact ⟨_, ReadsAll.nil, by simp⟩
  | d :: ds, _, _, h, r => by
    cases h with
    | cons h1 h2 =>
      cases r with
      | cons r1 r2 =>
        obtain ⟨as, q1, n1⟩ := Dq.reads I sm d _ _ h1 r1
        obtain ⟨bs, q2, n2⟩ := Dq.readsAll I sm ds _ _ h2 r2
        exact ⟨_, ReadsAll.cons q1 q2, fun z => (List.mem_append.mp z).elim n1 n2⟩
theorem Dq.readsAll2 {pins : List (Addr × Obj)} {s : Shared} (I : Inv X pins σ H s) (sm : SmK X.K) : ∀ (ds : List (PyData × PyData)) (vs : List V) (us : List Value), DqAll X.K H vs (ds.map (·.2)) → Vals vs us → ∃ as, ReadsAll s.heap us (ds.map (·.2)) as ∧ sysModules ∉ as
  | [], _, _, h, r => by
    cases h
    cases r
    exact ⟨_, ReadsAll.nil, by simp⟩
  | (k, d) :: ds, _, _, h, r => by
    cases h with
    | cons h1 h2 =>
      cases r with
      | cons r1 r2 =>
        obtain ⟨as, q1, n1⟩ := Dq.reads I sm d _ _ h1 r1
        obtain ⟨bs, q2, n2⟩ := Dq.readsAll2 I sm ds _ _ h2 r2
        exact ⟨_, ReadsAll.cons q1 q2, fun z => (List.mem_append.mp z).elim n1 n2⟩
end
theorem deepKs {m : Mem} : ∀ (n : Nat) {kvs : List (Key × V)} {a : List PyData}, deepDs m n (kvs.map fun p => kW p.1) = some a → a = kvs.map fun p => keyD p.1
  | 0, kvs, a, e => by simp [deepDs] at e
  | n + 1, [], a, e => by simp only [List.map_nil, deepDs] at e; cases e; rfl
  | n + 1, (k, v) :: kvs, a, e => by
    simp only [List.map_cons, deepDs] at e
    split at e
    · rename_i d ds h1 h2
      cases e
      have ih := deepKs n h2
      rw [ih, List.map_cons]
      congr 1
      cases n with
      | zero => simp [deepD] at h1
      | succ n => cases k <;> (simp only [kW, deepD] at h1; cases h1; rfl)
    · cases e
theorem zip_fst : ∀ {a b : List PyData}, a.length = b.length → (a.zip b).map (·.1) = a ∧ (a.zip b).map (·.2) = b
  | [], [], _ => ⟨rfl, rfl⟩
  | [], _ :: _, h => by simp at h
  | _ :: _, [], h => by simp at h
  | x :: a, y :: b, h => by
    have := zip_fst (a := a) (b := b) (by simpa using h)
    simp [this.1, this.2]
theorem dq_dct {K : PySem.W.Frag} {H : Hp} {a : Addr} {kvs : List (Key × V)} {n : Nat} {ks ds : List PyData} (hr : Rd H a (.dK kvs)) (hk : deepDs m n (kvs.map fun p => kW p.1) = some ks) (hd : DqAll K H (kvs.map (·.2)) ds) : Dq K H (.ref a) (.dict (ks.zip ds)) := by
  have e := deepKs n hk
  have hl : ks.length = ds.length := by
    rw [e, ← hd.length]
    simp
  obtain ⟨z1, z2⟩ := zip_fst hl
  exact .dct hr (by rw [z1, e]) (by rw [z2]; exact hd)
mutual
theorem deepV (M : MR B g m H) : ∀ (n : Nat) (w : W) (v : V) (d : PyData), VR B g.G g.ρ w v → deepD m n w = some d → Dq B.K H v d
  | 0, _, _, _, _, e => by simp [deepD] at e
  | n + 1, w, v, d, h, e => by
    cases w <;> simp only [deepD] at e
    case non => cases e; cases h; exact .non
    case bl b => cases e; cases h; exact .bl b
    case int b => cases e; cases h; exact .int b
    case str b => cases e; cases h; exact .str b
    case tup xs =>
      split at e
      · rename_i ds hd
        cases e
        simp only [VR] at h
        obtain ⟨a, vs, rfl, q, r⟩ := h
        exact .tup (SqT.mr M q) (deepVs M n xs vs ds r hd)
      · cases e
    case lst xs =>
      split at e
      · rename_i ds hd
        cases e
        simp only [VR] at h
        obtain ⟨a, vs, rfl, q, r⟩ := h
        exact .lst (SqL.of (M.ex q)) (deepVs M n xs vs ds r hd)
      · cases e
    case cell i =>
      split at e
      · rename_i xs hi
        split at e
        · rename_i ds hd
          cases e
          simp only [VR] at h
          obtain ⟨a, ha, rfl⟩ := h
          obtain ⟨a', ha', ⟨vs, q, r⟩, _⟩ := M.get hi
          rw [ha] at ha'
          cases ha'
          exact .lst (SqL.of q) (deepVs M n xs vs ds r hd)
        · cases e
      · rename_i ks us hi
        split at e
        · rename_i ka da hk hd
          cases e
          simp only [VR] at h
          obtain ⟨a, ha, rfl⟩ := h
          obtain ⟨a', ha', ⟨kvs, _, q, rfl, r⟩, _⟩ := M.get hi
          rw [ha] at ha'
          cases ha'
          exact dq_dct (.inl q) hk (deepVs M n us _ da r hd)
        · cases e
      · cases e
    case dct nn ks us =>
      cases nn with
      | true => simp only at e; cases e
      | false =>
        simp only at e
        split at e
        · rename_i ka da hk hd
          cases e
          simp only [VR] at h
          obtain ⟨a, kvs, rfl, _, q, rfl, r⟩ := h
          exact dq_dct (Rd.mr M q) hk (deepVs M n us _ da r hd)
        · cases e
    all_goals cases e
theorem deepVs (M : MR B g m H) : ∀ (n : Nat) (ws : List W) (vs : List V) (ds : List PyData), VRs B g.G g.ρ ws vs → deepDs m n ws = some ds → DqAll B.K H vs ds
  | 0, _, _, _, _, e => by simp [deepDs] at e
  | n + 1, [], vs, ds, h, e => by
    simp only [deepDs] at e
    cases e
    simp only [VRs] at h
    subst h
    exact .nil
  | n + 1, w :: ws, vs, ds, h, e => by
    simp only [deepDs] at e
    split at e
    · rename_i d ds' h1 h2
      cases e
      simp only [VRs] at h
      obtain ⟨u, us, rfl, r1, r2⟩ := h
      exact .cons (deepV M n w u d r1 h1) (deepVs M n ws us ds' r2 h2)
    · cases e
end
theorem deepO (M : MR B g m H) {n : Nat} {ob : Ob} {a : Addr} {d : PyData} (h : OR B g.G g.ρ H ob a) (e : deepD m n ob.w = some d) : Dq B.K H (.ref a) d := by
  cases n with
  | zero => simp [deepD] at e
  | succ n =>
    cases ob with
    | lst xs =>
      simp only [Ob.w, deepD] at e
      split at e
      · rename_i ds hd
        cases e
        obtain ⟨vs, q, r⟩ := h
        exact .lst (SqL.of q) (deepVs M n xs vs ds r hd)
      · cases e
    | dct nn ks us =>
      cases nn with
      | true => simp [Ob.w, deepD] at e
      | false =>
        simp only [Ob.w, deepD] at e
        split at e
        · rename_i ka da hk hd
          cases e
          obtain ⟨kvs, _, q, rfl, r⟩ := h
          exact dq_dct (.inl q) hk (deepVs M n us _ da r hd)
        · cases e
    | ins _ _ => simp [Ob.w, deepD] at e
theorem deepRR (M : MR B g m H) {n : Nat} {rv : RV} {w : W} {v : V} {d : PyData} (h : RR B g env σ H Hs rv v) (ew : deepR m rv = some w) (e : deepD m n w = some d) : Dq B.K H v d := by
  cases rv with
  | val u => simp only [deepR] at ew; cases ew; exact deepV M n _ _ _ h e
  | new ob =>
    simp only [deepR] at ew
    cases ew
    obtain ⟨a, rfl, _, _, h4, _⟩ := h
    exact deepO M h4 e
  | own i => simp [deepR] at ew

theorem call_lenRd : CallR X (.builtin "len") (fun xs H Q => ∃ a kvs, xs = [.ref a] ∧ Rd H a (.dK kvs) ∧ Q (.int kvs.length) H) := by
  intro pins s σ H xs us Q I r h
  obtain ⟨a, kvs, rfl, e, q⟩ := h
  rw [Vals.ref1 r]
  exact d_len I e fun t s' I' => ⟨.int _, H, I', ⟨_, rfl⟩, q⟩
theorem call_repr_bl : CallR X (.builtin "repr") (fun xs H Q => ∃ b, xs = [.bl b] ∧ Q (.str (if b then "True" else "False")) H) := by
  intro pins s σ H xs us Q I r h
  obtain ⟨i, rfl, q⟩ := h
  obtain ⟨u, rfl, hu⟩ := vals1 r
  cases (show u = Value.bool i from hu)
  exact PySem.P.repr_of_bool ⟨.str _, H, I.tok _, ⟨_, rfl⟩, q⟩
theorem call_repr_non : CallR X (.builtin "repr") (fun xs H Q => xs = [.non] ∧ Q (.str "None") H) := by
  intro pins s σ H xs us Q I r h
  obtain ⟨rfl, q⟩ := h
  obtain ⟨u, rfl, hu⟩ := vals1 r
  cases (show u = Value.none from hu)
  exact PySem.P.repr_of_none ⟨.str _, H, I.tok _, ⟨_, rfl⟩, q⟩
/-- repr of data -/
theorem call_repr_strM : CallR X (.builtin "repr") (fun xs H Q => ∃ x, xs = [.str x] ∧ (reprText x).length ≤ sizeLine ∧ Q (.str (reprText x)) H) := by
  intro pins s σ H xs us Q I r h
  obtain ⟨i, rfl, hz, q⟩ := h
  obtain ⟨u, rfl, t, rfl⟩ := vals1 r
  exact PySem.P.repr_of_str ⟨.str _, H, I.tok _, ⟨_, rfl⟩, q⟩ hz
theorem call_reprD (hu : X.A.units + 65 < cLine) (hg : X.A.guards = some []) (sm : SmK X.K) : CallR X (.builtin "repr") (fun xs H Q => ∃ a d, xs = [.ref a] ∧ Dq X.K H (.ref a) d ∧ d.showable = true ∧ d.shown.length ≤ sizeLine ∧ d.depth ≤ 60 ∧ Q (.str d.shown) H) := by
  intro pins s σ H xs us Q I r h
  obtain ⟨a, d, rfl, hd, h1, h3, h4, q⟩ := h
  rw [Vals.ref1 r]
  obtain ⟨as, hr, hnn⟩ := Dq.reads I sm d (.ref a) (.ref a) hd rfl
  exact repr_of_reads' hr h1 (fun _ => hnn) hg (by omega) (fun _ _ e => e) (fun h' u tk hk => ⟨.str _, H, I.kept hk, ⟨_, rfl⟩, q⟩) h3
theorem RDs.one {u : W} {xs : List V} (h : RDs B g H [u] xs) : ∃ v, xs = [v] ∧ RD B g H u v := by
  obtain ⟨v, us, rfl, h1, h2⟩ := h
  have : us = [] := h2
  subst this
  exact ⟨v, rfl, h1⟩
theorem RDs.two {u w : W} {xs : List V} (h : RDs B g H [u, w] xs) : ∃ v v', xs = [v, v'] ∧ RD B g H u v ∧ RD B g H w v' := by
  obtain ⟨v, us, rfl, h1, h2⟩ := h
  obtain ⟨v', rfl, h3⟩ := RDs.one h2
  exact ⟨v, v', rfl, h1, h3⟩
theorem dK_keys : ∀ {kvs : List (Key × V)}, VRs B g.G g.ρ (kvs.map fun p => kW p.1) (kvs.map fun p => kV p.1)
  | [] => VRs.nil
  | (k, v) :: kvs => by
    refine VRs.cons ?_ dK_keys
    cases k <;> rfl
/-- a built-in by values -/
theorem bltV_ok {b : Blt} {us ds : List W} {xs : List V} {r : RV} {Q : VK} {deep : W → Option PyData} (hK : X.K = B.K) (hu : X.A.units + 65 < cLine) (hgd : X.A.guards = some []) (hc : X.calm = true) (sm : SmK X.K)
    (M : MR B g m H) (hx : RDs B g H us xs) (hd : ∀ x v d, ds = [x] → xs = [v] → deep x = some d → Dq B.K H v d) (e : bltV deep b us ds = some r)
    (q : ∀ g' z H', Ev g H g' H' → MR B g' m H' → RR B g' env σ H' H r z → Q z H') (hb : b ≠ .lenset ∧ b ≠ .min1) : cAny X b.callee xs H Q := by
  have pureV : ∀ {z : V} {w : W}, r = .val w → VR B g.G g.ρ w z → Q z H := fun er hz => q g _ H Ev.refl M (by rw [er]; exact hz)
  have newL : ∀ {ys : List W} {vs : List V}, r = .new (.lst ys) → VRs B g.G g.ρ ys vs → ∀ p, H p = none → Q (.ref p) (upd H p (.lst vs)) := fun er hv p hp =>
    q g _ _ (Ev.new hp) (MR.new M hp) (by rw [er]; exact RR.mk M hp hp ⟨_, upd_same, hv⟩)
  unfold bltV at e
  split at e
  case h_1 => -- len of the script
    cases e
    obtain ⟨v, rfl, a, rfl, qa⟩ := hx.one
    exact ⟨_, call_len_seq, a, _, rfl, .inl (by rw [hK]; exact qa), pureV rfl (by rw [List.length_map]; rfl)⟩
  case h_2 =>
    cases e
    obtain ⟨v, rfl, a, vs, rfl, qa, ra⟩ := hx.one
    exact ⟨_, call_len_seq, a, _, rfl, .inl (SqL.of qa), pureV rfl (by rw [ra.length]; rfl)⟩
  case h_3 =>
    cases e
    obtain ⟨v, rfl, h⟩ := hx.one
    obtain ⟨a, vs, rfl, qa, ra⟩ := RD.tupE h
    exact ⟨_, call_len_seq, a, _, rfl, .inr (by rw [hK]; exact SqT.mr M qa), pureV rfl (by rw [ra.length]; rfl)⟩
  case h_4 =>
    split at e
    · rename_i hz
      cases e
      obtain ⟨v, rfl, h⟩ := hx.one
      cases h
      exact ⟨_, call_len_str, _, rfl, hz, pureV rfl rfl⟩
    · cases e
  case h_5 =>
    cases e
    obtain ⟨v, rfl, a, kvs, rfl, rfl, qa, rfl, ra⟩ := hx.one
    refine ⟨_, call_lenRd, a, kvs, rfl, qa, pureV rfl (by rw [List.length_map]; rfl)⟩
  case h_6 =>
    cases e
    obtain ⟨v, rfl, h⟩ := hx.one
    cases h
    exact ⟨_, call_int1, .inl ⟨_, rfl, pureV rfl rfl⟩⟩
  case h_7 =>
    cases e
    obtain ⟨v, rfl, h⟩ := hx.one
    cases h
    exact ⟨_, call_int1, .inr ⟨_, rfl, pureV rfl rfl⟩⟩
  case h_8 =>
    split at e
    · rename_i hz
      split at e
      · rename_i n hn
        cases e
        obtain ⟨v, rfl, h⟩ := hx.one
        cases h
        exact ⟨_, call_int_str, _, n, rfl, hn, hz, pureV rfl rfl⟩
      · cases e
    · cases e
  case h_9 =>
    cases e
    obtain ⟨v, v', rfl, h, h'⟩ := hx.two
    cases h
    cases h'
    exact ⟨_, call_max2 hc, _, _, rfl, pureV rfl rfl⟩
  case h_10 =>
    cases e
    obtain ⟨v, v', rfl, h, h'⟩ := hx.two
    cases h
    cases h'
    exact ⟨_, call_min2 hc, _, _, rfl, pureV rfl rfl⟩
  case h_11 =>
    cases e
    obtain ⟨v, rfl, h⟩ := hx.one
    cases h
    exact ⟨_, SkE.call_str_str, _, rfl, pureV rfl rfl⟩
  case h_12 =>
    split at e
    · rename_i hz
      cases e
      obtain ⟨v, rfl, h⟩ := hx.one
      cases h
      exact ⟨_, call_str_int, _, rfl, hz, pureV rfl rfl⟩
    · cases e
  case h_13 =>
    cases e
    obtain ⟨v, rfl, h⟩ := hx.one
    cases h
    exact ⟨_, call_abs, _, rfl, pureV rfl rfl⟩
  case h_14 =>
    cases e
    obtain ⟨v, rfl, a, vs, rfl, qa, ra⟩ := hx.one
    exact ⟨_, call_list_of, a, vs, rfl, .inl (SqL.of qa), newL rfl ra⟩
  case h_15 =>
    cases e
    obtain ⟨v, rfl, h⟩ := hx.one
    obtain ⟨a, vs, rfl, qa, ra⟩ := RD.tupE h
    exact ⟨_, call_list_of, a, vs, rfl, .inr (by rw [hK]; exact SqT.mr M qa), newL rfl ra⟩
  case h_16 =>
    cases e
    obtain ⟨v, rfl, a, kvs, rfl, rfl, qa, rfl, ra⟩ := hx.one
    exact ⟨_, call_listD hc, a, kvs, rfl, qa, newL rfl dK_keys⟩
  case h_17 =>
    cases e
    obtain ⟨v, rfl, a, vs, rfl, qa, ra⟩ := hx.one
    refine ⟨_, call_tuple_of, a, vs, rfl, .inl ⟨SqL.of qa, fun p hp => ?_⟩⟩
    refine q _ _ _ (Ev.pure M hp) (MR.pure M hp) ?_
    show VR B _ _ (.tup _) _
    simp only [VR]
    exact ⟨p, vs, rfl, .inl (.inl upd_same), VRs.up (Ev.pure (o := .tup vs) M hp).gk ⟨[], by simp [Gh.frz]⟩ _ _ ra⟩
  case h_18 =>
    cases e
    obtain ⟨v, rfl, h⟩ := hx.one
    obtain ⟨a, vs, rfl, qa, ra⟩ := RD.tupE h
    exact ⟨_, call_tuple_of, a, vs, rfl, .inr ⟨by rw [hK]; exact SqT.mr M qa, pureV rfl h⟩⟩
  case h_19 =>
    cases e
    obtain ⟨v, rfl, a, kvs, rfl, rfl, qa, rfl, ra⟩ := hx.one
    exact ⟨_, call_dictD, a, kvs, rfl, qa, fun p hp => q g _ _ (Ev.new hp) (MR.new M hp) (RR.mk M hp hp ⟨kvs, rfl, upd_same, rfl, ra⟩)⟩
  case h_20 =>
    cases e
    obtain ⟨v, rfl, h⟩ := hx.one
    cases h
    exact ⟨_, call_repr_bl, _, rfl, pureV rfl rfl⟩
  case h_21 =>
    cases e
    obtain ⟨v, rfl, h⟩ := hx.one
    cases h
    exact ⟨_, call_repr_non, rfl, pureV rfl rfl⟩
  case h_22 =>
    split at e
    · rename_i hz
      cases e
      obtain ⟨v, rfl, h⟩ := hx.one
      cases h
      exact ⟨_, SkE.call_repr_int, _, rfl, hz, pureV rfl rfl⟩
    · cases e
  case h_23 x =>
    split at e
    · rename_i d hdd
      split at e
      · rename_i hz
        cases e
        obtain ⟨v, rfl, a, vs, rfl, qa, ra⟩ := hx.one
        simp only [Bool.and_eq_true, decide_eq_true_eq, Bool.not_eq_true'] at hz
        exact ⟨_, call_reprD hu hgd sm, a, d, rfl, by rw [hK]; exact hd x _ d rfl rfl hdd, hz.1.1, hz.1.2, hz.2, pureV rfl rfl⟩
      · cases e
    · cases e
  case h_24 =>
    split at e
    · rename_i hz
      cases e
      obtain ⟨v, rfl, h⟩ := hx.one
      cases h
      exact ⟨_, call_repr_strM, _, rfl, hz, pureV rfl rfl⟩
    · cases e
  case h_25 x =>
    split at e
    · rename_i d hdd
      split at e
      · rename_i hz
        cases e
        obtain ⟨v, rfl, a, kvs, rfl, rfl, qa, rfl, ra⟩ := hx.one
        simp only [Bool.and_eq_true, decide_eq_true_eq, Bool.not_eq_true'] at hz
        exact ⟨_, call_reprD hu hgd sm, a, d, rfl, by rw [hK]; exact hd x _ d rfl rfl hdd, hz.1.1, hz.1.2, hz.2, pureV rfl rfl⟩
      · cases e
    · cases e
  case h_26 x =>
    split at e
    · rename_i d hdd
      split at e
      · rename_i hz
        cases e
        obtain ⟨v, rfl, h⟩ := hx.one
        obtain ⟨a, vs, rfl, qa, ra⟩ := RD.tupE h
        simp only [Bool.and_eq_true, decide_eq_true_eq, Bool.not_eq_true'] at hz
        exact ⟨_, call_reprD hu hgd sm, a, d, rfl, by rw [hK]; exact hd x _ d rfl rfl hdd, hz.1.1, hz.1.2, hz.2, pureV rfl rfl⟩
      · cases e
    · cases e
  case h_27 =>
    split at e
    · split at e
      · rename_i ss hs
        cases e
        obtain ⟨v, rfl, a, vs, rfl, qa, ra⟩ := hx.one
        have ev := strsW_rel ra hs
        subst ev
        refine ⟨_, cr_sortedStr, a, ss, rfl, SqL.of qa, fun ys p hp hs' hn => ?_⟩
        rw [srt_str hp hs']
        exact newL rfl (strs_VRs _) p hn
      · split at e
        · rename_i ns hs
          cases e
          obtain ⟨v, rfl, a, vs, rfl, qa, ra⟩ := hx.one
          have ev := intsW_rel ra hs
          subst ev
          refine ⟨_, cr_sortedI, a, ns, rfl, SqL.of qa, fun ys p hp hs' hn => ?_⟩
          rw [srt_int hp hs']
          exact newL rfl (ints_VRs _) p hn
        · cases e
    · cases e
  case h_28 =>
    split at e
    · rename_i ns hs
      cases e
      obtain ⟨v, rfl, a, vs, rfl, qa, ra⟩ := hx.one
      have ev := intsW_rel ra hs
      subst ev
      exact ⟨_, cr_sum hc, a, ns, rfl, SqL.of qa, pureV rfl rfl⟩
    · cases e
  all_goals first | exact absurd rfl hb.1 | exact absurd rfl hb.2 | cases e
end
end Mi

set_option Elab.async false
set_option linter.all false
set_option maxRecDepth 100000
set_option maxHeartbeats 1000000
/-! Mi8: methods of built-in types by values; writing. -/
namespace Mi
open PySem PySem.Spec L2
open PyProof.Rows (Fr News)

def Bm.name : Bm → Str
  | .get => "get" | .index => "index" | .count => "count" | .join => "join" | .split => "split" | .pop => "pop" | .append => "append" | .reverse => "reverse"
  | .clear => "clear" | .update => "update" | .remove => "remove" | .values => "values"
def Tn.s : Tn → String
  | .list => "list" | .tuple => "tuple" | .str => "str" | .dict => "dict"
def bmId : Bm → Tn → String
  | .get, .dict => "dict.get" | .pop, .dict => "dict.pop" | .pop, .list => "list.pop"
  | .index, .list => "list.index" | .count, .list => "list.count" | .join, .str => "str.join" | .split, .str => "str.split"
  | .append, .list => "list.append" | .reverse, .list => "list.reverse" | .clear, .list => "list.clear"
  | _, _ => ""
structure BmF (k : Bm) (T id : String) : Prop where
  pa : PlainAttrs T
  slot : Slot T k.name id
  ty : typeOf (.builtin id) = pure (.type "method_descriptor")
theorem bm_facts {k : Bm} {t : Tn} (h : bmHas k t = true) : BmF k t.s (bmId k t) := by
  cases k <;> cases t <;> first | (cases h; done) | first
    | exact ⟨F.plainAttrs_dict, F.slot_dict_get, F.type_dict_get⟩
    | exact ⟨F.plainAttrs_dict, F.slot_dict_pop, F.type_dict_pop⟩
    | exact ⟨F.plainAttrs_list, F.slot_list_pop, F.type_list_pop⟩
    | exact ⟨F.plainAttrs_list, F.slot_list_index, F.type_list_index⟩
    | exact ⟨F.plainAttrs_list, F.slot_list_count, F.type_list_count⟩
    | exact ⟨F.plainAttrs_str, F.slot_str_join, F.type_str_join⟩
    | exact ⟨F.plainAttrs_str, F.slot_str_split, F.type_str_split⟩
    | exact ⟨F.plainAttrs_list, F.slot_list_append, F.type_list_append⟩
    | exact ⟨F.plainAttrs_list, F.slot_list_reverse, F.type_list_reverse⟩
    | exact ⟨F.plainAttrs_list, F.slot_list_clear, F.type_list_clear⟩
theorem bm_tup {k : Bm} {t : Tn} (h : bmHas k t = true) : t ≠ .tuple := by
  intro z
  subst z
  cases k <;> cases h

section
variable {B : Tb} {X : Cx} {g : Gh} {H Hs : Hp} {m : List Ob} {env : List Sl} {σ : List (Option V)}
/-- x is of the type T, no dict hangs on it -/
def TyA (X : Cx) (T : String) (x : V) (H : Hp) : Prop := ∀ (pins : List (Addr × Obj)) (σ : St) (s : Shared) (v : Value), Inv X pins σ H s → RelV x v →
  s.TypeIs v T ∧ ∀ a, v = .ref a → ∃ ob, s.heap.get? a = some ob ∧ ob.dict = none
theorem tyA_ok {T : String} : TyOk X T (TyA X T) := fun pins σ H s x v I r h => h pins σ s v I r
theorem tyOf_ok {u : W} {x : V} {T : Tn} (hK : X.K = B.K) (M : MR B g m H) (h : RD B g H u x) (e : tyOf u = some T) (hT : T ≠ .tuple) : TyA X T.s x H := by
  intro pins σ s v I r
  cases u <;> simp only [tyOf] at e <;> cases e
  case str z =>
    cases h
    obtain ⟨t, rfl⟩ := r
    exact ⟨PySem.typeIs_str s z t, fun _ e => nomatch e⟩
  case tup xs => exact absurd rfl hT
  case lst xs =>
    obtain ⟨a, vs, rfl, qa, ra⟩ := h
    cases r
    obtain ⟨its, _, pl, _⟩ := I.list (SqL.of qa)
    refine ⟨pl.isList.typeIs, fun a e => ?_⟩
    cases e
    obtain ⟨o, n, e, c, hd, _⟩ := pl
    exact ⟨o, e, hd⟩
  case dct n ks us =>
    obtain ⟨a, kvs, rfl, rfl, qa, _, _⟩ := h
    cases r
    obtain ⟨t1, t2, _⟩ := isD_at I (.inl ⟨kvs, qa⟩)
    exact ⟨t1, t2⟩

/-! ### dict operations, related -/
theorem dany_rel {q : Key} : ∀ {kvs : List (Key × V)}, ((kvs.map fun p => kW p.1).any fun w => decide (w = kW q)) = kvs.any fun kv => decide (kv.1 = q)
  | [] => rfl
  | (k, v) :: kvs => by
    simp only [List.map_cons, List.any_cons, dany_rel (kvs := kvs)]
    congr 1
    by_cases h : k = q
    · subst h; simp
    · rw [decide_eq_false h, decide_eq_false (fun z => h (kW_inj z))]
theorem dset_rel {q : Key} {v : V} {w : W} (hw : VR B g.G g.ρ w v) : ∀ {us : List W} {kvs : List (Key × V)}, VRs B g.G g.ρ us (kvs.map (·.2)) →
    VRs B g.G g.ρ (dset (kW q) w (kvs.map fun p => kW p.1) us) ((kvs.map fun kv => if kv.1 = q then (kv.1, v) else kv).map (·.2))
  | us, [], h => by
    simp only [List.map_nil, dset]
    cases us <;> exact VRs.nil
  | us, (k, x) :: kvs, h => by
    cases us with
    | nil => have := h.length; simp at this
    | cons u us =>
      simp only [VRs, List.map_cons] at h
      obtain ⟨v', vs', e, h1, h2⟩ := h
      injection e with e1 e2
      subst e1 e2
      simp only [List.map_cons, dset]
      by_cases hk : k = q
      · subst hk
        rw [if_pos rfl, if_pos rfl]
        exact VRs.cons hw (dset_rel hw h2)
      · rw [if_neg (fun z => hk (kW_inj z)), if_neg hk]
        exact VRs.cons h1 (dset_rel hw h2)
theorem map_fst_repl {q : Key} {v : V} : ∀ kvs : List (Key × V), (kvs.map fun kv => if kv.1 = q then (kv.1, v) else kv).map (fun p => kW p.1) = kvs.map fun p => kW p.1
  | [] => rfl
  | (k, x) :: kvs => by
    simp only [List.map_cons, map_fst_repl kvs]
    congr 1
    split <;> rfl
theorem dput_rel {q : Key} {v : V} {w : W} {us : List W} {kvs : List (Key × V)} (hw : VR B g.G g.ρ w v) (h : VRs B g.G g.ρ us (kvs.map (·.2))) :
    (dput (kW q) w (kvs.map fun p => kW p.1) us).1 = (putK kvs q v).map (fun p => kW p.1) ∧ VRs B g.G g.ρ (dput (kW q) w (kvs.map fun p => kW p.1) us).2 ((putK kvs q v).map (·.2)) := by
  unfold dput putK
  rw [dany_rel]
  split
  · exact ⟨(map_fst_repl kvs).symm, dset_rel hw h⟩
  · refine ⟨by simp, ?_⟩
    rw [List.map_append]
    exact VRs.app h (VRs.cons hw VRs.nil)
theorem ddrop_rel {q : Key} : ∀ {us : List W} {kvs : List (Key × V)}, VRs B g.G g.ρ us (kvs.map (·.2)) →
    (ddrop (kW q) (kvs.map fun p => kW p.1) us).1 = (dropK kvs q).map (fun p => kW p.1) ∧ VRs B g.G g.ρ (ddrop (kW q) (kvs.map fun p => kW p.1) us).2 ((dropK kvs q).map (·.2))
  | us, [], h => by
    simp only [List.map_nil, ddrop, dropK, List.filter_nil]
    cases us <;> simp [ddrop, VRs]
  | us, (k, x) :: kvs, h => by
    cases us with
    | nil => have := h.length; simp at this
    | cons u us =>
      simp only [VRs, List.map_cons] at h
      obtain ⟨v', vs', e, h1, h2⟩ := h
      injection e with e1 e2
      subst e1 e2
      have ih := ddrop_rel (q := q) h2
      simp only [List.map_cons, ddrop]
      have ed : dropK ((k, x) :: kvs) q = if k = q then dropK kvs q else (k, x) :: dropK kvs q := by
        unfold dropK
        rw [List.filter_cons]
        by_cases hk : k = q
        · simp [hk]
        · simp [hk]
      rw [ed]
      by_cases hk : k = q
      · subst hk
        rw [if_pos rfl, if_pos rfl]
        exact ih
      · rw [if_neg (fun z => hk (kW_inj z)), if_neg hk]
        exact ⟨by rw [List.map_cons, ih.1], VRs.cons h1 ih.2⟩

/-! ### methods that change nothing -/
def mAny (X : Cx) (id : String) : V → List V → Hp → VK → Prop := fun x xs H Q => ∃ r, MtR X id r ∧ r x xs H Q
theorem mt_any {id : String} : MtR X id (mAny X id) := by
  intro pins s σ H x xs v us Q I rx rs h
  obtain ⟨r', hr, q⟩ := h
  exact hr pins s σ H x xs v us Q I rx rs q
theorem mt_dget1 (hu : X.A.units + 1 < cLine) : MtR X "dict.get" (fun x xs H Q => ∃ a y o, x = .ref a ∧ xs = [y] ∧ DGet H a y o ∧ Q (o.getD .non) H) := by
  intro pins s σ H x xs v us Q I rx rs h
  obtain ⟨a, y, o, rfl, rfl, dg, q⟩ := h
  cases rx
  obtain ⟨u, rfl, r⟩ := rs.one
  exact d_get1 hu I dg r fun w' s' I' r' => ⟨_, H, I', r', q⟩
theorem mt_dget2 (hu : X.A.units + 1 < cLine) : MtR X "dict.get" (fun x xs H Q => ∃ a y d o, x = .ref a ∧ xs = [y, d] ∧ DGet H a y o ∧ Q (o.getD d) H) := by
  intro pins s σ H x xs v us Q I rx rs h
  obtain ⟨a, y, d, o, rfl, rfl, dg, q⟩ := h
  cases rx
  obtain ⟨u, u', rfl, r, r'⟩ := rs.two
  exact d_get2 hu I dg r r' fun w' s' I' r' => ⟨_, H, I', r', q⟩
theorem mt_dpop1 : MtR X "dict.pop" (fun x xs H Q => ∃ a k kvs v, x = .ref a ∧ xs = [kV k] ∧ H a = some (.dK kvs) ∧ valV kvs k = some v ∧ Q v (upd H a (.dK (dropK kvs k)))) := by
  intro pins s σ H x xs v us Q I rx rs h
  obtain ⟨a, k, kvs, v, rfl, rfl, e, l, q⟩ := h
  cases rx
  obtain ⟨u, rfl, r⟩ := rs.one
  exact d_pop I e r l (.inl rfl) fun w' s' I' r' => ⟨_, _, I', r', q⟩
theorem mt_dpop2 : MtR X "dict.pop" (fun x xs H Q => ∃ a k kvs d, x = .ref a ∧ xs = [kV k, d] ∧ H a = some (.dK kvs) ∧ (∀ v, valV kvs k = some v → Q v (upd H a (.dK (dropK kvs k)))) ∧ (valV kvs k = none → Q d H)) := by
  intro pins s σ H x xs v us Q I rx rs h
  obtain ⟨a, k, kvs, d, rfl, rfl, e, q1, q2⟩ := h
  cases rx
  obtain ⟨u, u', rfl, r, r'⟩ := rs.two
  cases l : valV kvs k with
  | some v => exact d_pop I e r l (.inr ⟨u', rfl⟩) fun w' s' I' r' => ⟨_, _, I', r', q1 v l⟩
  | none => exact d_popD I e r l fun s' I' => ⟨_, H, I', r', q2 l⟩
theorem key_of_isKey {k : W} {x : V} (h : isKey false k = true) (r : VR B g.G g.ρ k x) : ∃ q : Key, k = kW q ∧ x = kV q := keyV h r
theorem getD_rel {q : Key} {us : List W} {kvs : List (Key × V)} {d : W} {z : V} (h : VRs B g.G g.ρ us (kvs.map (·.2))) (hd : VR B g.G g.ρ d z) :
    VR B g.G g.ρ ((dget (kW q) (kvs.map fun p => kW p.1) us).getD d) ((valV kvs q).getD z) := by
  cases e : dget (kW q) (kvs.map fun p => kW p.1) us with
  | none => rw [(dget_rel h).2 e]; exact hd
  | some w =>
    obtain ⟨v, e2, r⟩ := (dget_rel h).1 w e
    rw [e2]
    exact r
theorem VRs.one {w : W} {vs : List V} (h : VRs B g.G g.ρ [w] vs) : ∃ v, vs = [v] ∧ VR B g.G g.ρ w v := by
  simp only [VRs] at h
  obtain ⟨v, us, rfl, h1, rfl⟩ := h
  exact ⟨v, rfl, h1⟩
theorem VRs.two {w w' : W} {vs : List V} (h : VRs B g.G g.ρ [w, w'] vs) : ∃ v v', vs = [v, v'] ∧ VR B g.G g.ρ w v ∧ VR B g.G g.ρ w' v' := by
  simp only [VRs] at h
  obtain ⟨v, us, rfl, h1, v', us', rfl, h2, rfl⟩ := h
  exact ⟨v, v', rfl, h1, h2⟩
theorem VRs.zero {vs : List V} (h : VRs B g.G g.ρ [] vs) : vs = [] := by simpa only [VRs] using h
theorem toDs_get : ∀ {ws : List W} {ds : List PyData}, toDs ws = some ds → ws.length = ds.length
  | [], ds, e => by simp only [toDs] at e; cases e; rfl
  | w :: ws, ds, e => by
    simp only [toDs] at e
    split at e
    · rename_i d ds' _ h2
      cases e
      simp [toDs_get h2]
    · cases e
/-- a method that changes nothing -/
theorem bmV_ok {k : Bm} {u : W} {ws : List W} {x : V} {xs : List V} {r : RV} {T : Tn} {Q : VK} (hK : X.K = B.K) (hu : X.A.units + 65 < cLine) (M : MR B g m H) (hx : RD B g H u x) (hxs : VRs B g.G g.ρ ws xs)
    (e : bmV k u ws = some r) (eT : tyOf u = some T)
    (q : ∀ g' z H', Ev g H g' H' → MR B g' m H' → RR B g' env σ H' H r z → Q z H') : mAny X (bmId k T) x xs H Q := by
  have hu1 : X.A.units + 1 < cLine := by omega
  have pureV : ∀ {z : V} {w : W}, r = .val w → VR B g.G g.ρ w z → Q z H := fun er hz => q g _ H Ev.refl M (by rw [er]; exact hz)
  have newL : ∀ {ys : List W} {vs : List V}, r = .new (.lst ys) → VRs B g.G g.ρ ys vs → ∀ p, H p = none → Q (.ref p) (upd H p (.lst vs)) := fun er hv p hp =>
    q g _ _ (Ev.new hp) (MR.new M hp) (by rw [er]; exact RR.mk M hp hp ⟨_, upd_same, hv⟩)
  unfold bmV at e
  split at e
  case h_1 =>
    simp only [tyOf] at eT; cases eT
    simp only [bmId]
    split at e
    · rename_i hk
      cases e
      obtain ⟨a, kvs, rfl, rfl, qa, rfl, ra⟩ := hx
      obtain ⟨v, rfl, hv⟩ := hxs.one
      obtain ⟨q', rfl, rfl⟩ := keyV hk hv
      exact ⟨_, mt_dget1 hu1, a, _, _, rfl, rfl, .inl ⟨kvs, q', qa, rfl, rfl⟩, pureV rfl (getD_rel ra rfl)⟩
    · cases e
  case h_2 =>
    simp only [tyOf] at eT; cases eT
    simp only [bmId]
    split at e
    · rename_i hk
      cases e
      obtain ⟨a, kvs, rfl, rfl, qa, rfl, ra⟩ := hx
      obtain ⟨v, z, rfl, hv, hz⟩ := hxs.two
      obtain ⟨q', rfl, rfl⟩ := keyV hk hv
      exact ⟨_, mt_dget2 hu1, a, _, z, _, rfl, rfl, .inl ⟨kvs, q', qa, rfl, rfl⟩, pureV rfl (getD_rel ra hz)⟩
    · cases e
  case h_3 =>
    simp only [tyOf] at eT; cases eT
    simp only [bmId]
    split at e
    · rename_i ss hs
      split at e
      · rename_i hz
        cases e
        cases hx
        obtain ⟨v, rfl, hv⟩ := hxs.one
        simp only [VR] at hv
        obtain ⟨p, vs, rfl, qp, rp⟩ := hv
        have ev := strsW_rel rp hs
        subst ev
        exact ⟨_, mt_join, _, p, ss, rfl, rfl, .inl (SqL.of (M.ex qp)), hz, pureV rfl rfl⟩
      · cases e
    · cases e
  case h_4 =>
    simp only [tyOf] at eT; cases eT
    simp only [bmId]
    split at e
    · rename_i hz
      cases e
      cases hx
      cases hxs.zero
      refine ⟨_, mt_words, _, rfl, rfl, hz, fun p hp => ?_⟩
      exact newL rfl (strs_VRs _) p hp
    · cases e
  case h_5 =>
    simp only [tyOf] at eT; cases eT
    simp only [bmId]
    split at e
    · rename_i d ds h1 h2
      split at e
      · rename_i hsh
        split at e
        · rename_i j hj
          cases e
          simp only [Bool.and_eq_true] at hsh
          obtain ⟨a, vs, rfl, qa, ra⟩ := hx
          obtain ⟨v, rfl, hv⟩ := hxs.one
          obtain ⟨hjl, hj1, hj2⟩ := List.findIdx?_eq_some_iff_getElem.mp hj
          refine ⟨_, mt_indexD hu, a, v, d, ds, j, ds[j], rfl, rfl, by rw [hK]; exact .lst (SqL.of qa) (dpRs M ra h2), by rw [hK]; exact dpV M _ _ _ hv h1, hsh.2, hsh.1, List.getElem?_eq_getElem hjl, hj1, fun m z' hm hz' => ?_, pureV rfl rfl⟩
          have hml : m < ds.length := by omega
          rw [List.getElem?_eq_getElem hml] at hz'
          cases hz'
          simpa using hj2 m hm
        · cases e
      · cases e
    · cases e
  case h_6 =>
    simp only [tyOf] at eT; cases eT
    simp only [bmId]
    split at e
    · rename_i ns hs
      cases e
      obtain ⟨a, vs, rfl, qa, ra⟩ := hx
      obtain ⟨v, rfl, hv⟩ := hxs.one
      cases hv
      have ev := intsW_rel ra hs
      subst ev
      exact ⟨_, mt_lcount, a, ns, _, rfl, rfl, SqL.of qa, pureV rfl rfl⟩
    · cases e
  all_goals cases e
end
end Mi

set_option Elab.async false
set_option linter.all false
set_option maxRecDepth 100000
set_option maxHeartbeats 1000000
/-! Mi9: writing to memory. -/
namespace Mi
open PySem PySem.Spec L2
open PyProof.Rows (Fr News)

section
variable {B : Tb} {X : Cx} {g g0 : Gh} {H H' H0 Hs : Hp} {m : List Ob} {env : List Sl} {σ : List (Option V)} {a : Addr} {ob ob' : Ob} {i : Nat}
/-- at most what stands at a has changed -/
structure Wr (a : Addr) (H H' : Hp) : Prop where
  o : ∀ b, b ≠ a → H' b = H b
  h : ∃ u, H' a = some u
theorem Wr.upd {u : HO} : Wr a H (upd H a u) := ⟨fun b hb => upd_ne hb, ⟨u, upd_same⟩⟩
theorem OR.wr {c : Addr} {x : Ob} (h : OR B g.G g.ρ H x c) (w : Wr a H H') (hc : c ≠ a) : OR B g.G g.ρ H' x c :=
  OR.up Gs.refl ⟨[], by simp⟩ (fun o q => by rw [w.o c hc]; exact q) h
theorem nodup_inj {l : List Addr} (nd : l.Nodup) {i j : Nat} {c : Addr} (h1 : l[i]? = some c) (h2 : l[j]? = some c) : i = j := by
  obtain ⟨r1, k1⟩ := List.getElem?_eq_some_iff.mp h1
  obtain ⟨r2, k2⟩ := List.getElem?_eq_some_iff.mp h2
  rcases Nat.lt_trichotomy i j with z | z | z
  · exact absurd (k1.trans k2.symm) (List.pairwise_iff_getElem.mp nd i j r1 r2 z)
  · exact z
  · exact absurd (k2.trans k1.symm) (List.pairwise_iff_getElem.mp nd j i r2 r1 z)
/-- a cell is written -/
theorem MR.cellWr (M : MR B g m H) (hi : m[i]? = some ob) (ha : g.ρ[i]? = some a) (w : Wr a H H') (h : OR B g.G g.ρ H' ob' a) : MR B g (m.set i ob') H' where
  sub := fun b o e => by
    have hb : b ≠ a := fun z => by
      rw [z, (M.cel i ob a hi ha).2] at e
      cases e
    rw [w.o b hb]
    exact M.sub b o e
  len := by rw [List.length_set]; exact M.len
  cel := fun j x b e1 e2 => by
    obtain ⟨il, _⟩ := List.getElem?_eq_some_iff.mp hi
    by_cases hj : i = j
    · subst hj
      rw [List.getElem?_set_self il] at e1
      cases e1
      rw [ha] at e2
      cases e2
      exact ⟨h, (M.cel i ob a hi ha).2⟩
    · rw [List.getElem?_set_ne hj] at e1
      obtain ⟨h1, h2⟩ := M.cel j x b e1 e2
      have hb : b ≠ a := fun z => by
        subst z
        exact hj (nodup_inj M.nd ha e2)
      exact ⟨h1.wr w hb, h2⟩
  nd := M.nd
theorem Ev.cellWr (M : MR B g m H) (hi : m[i]? = some ob) (ha : g.ρ[i]? = some a) (w : Wr a H H') : Ev g H g H' where
  gk := Gs.refl
  rk := ⟨[], by simp⟩
  gn := fun _ o h => .inl ⟨o, h⟩
  rn := fun _ h => .inl h
  fr := fun b o e n => by
    have hb : b ≠ a := fun z => n (z ▸ List.mem_of_getElem? ha)
    exact .inl (by rw [w.o b hb]; exact e)
  dom := fun b o e => by
    by_cases hb : b = a
    · subst hb; exact w.h
    · exact ⟨o, by rw [w.o b hb]; exact e⟩
/-- a thing of one's own is written -/
theorem MR.ownWr (M : MR B g m H) (h1 : g.G a = Option.none) (h2 : a ∉ g.ρ) (w : Wr a H H') : MR B g m H' where
  sub := fun b o e => by
    have hb : b ≠ a := fun z => by rw [z, h1] at e; cases e
    rw [w.o b hb]
    exact M.sub b o e
  len := M.len
  cel := fun j x b e1 e2 => by
    obtain ⟨k1, k2⟩ := M.cel j x b e1 e2
    exact ⟨k1.wr w fun z => h2 (z ▸ List.mem_of_getElem? e2), k2⟩
  nd := M.nd
/-- .. seen from a time when it was not there -/
theorem Ev.ownWr (e : Ev g0 H0 g H) (h0 : H0 a = Option.none) (w : Wr a H H') : Ev g0 H0 g H' where
  gk := e.gk
  rk := e.rk
  gn := e.gn
  rn := e.rn
  fr := fun b o q n => by
    have hb : b ≠ a := fun z => by rw [z, h0] at q; cases q
    rcases e.fr b o q n with z | ⟨⟨kvs, p, z2, z3⟩, z1⟩
    · exact .inl (by rw [w.o b hb]; exact z)
    · exact .inr ⟨⟨kvs, p, z2, by rw [w.o b hb]; exact z3⟩, z1⟩
  dom := fun b o q => by
    have hb : b ≠ a := fun z => by rw [z, h0] at q; cases q
    obtain ⟨o', q'⟩ := e.dom b o q
    exact ⟨o', by rw [w.o b hb]; exact q'⟩
theorem ER.ownWr (R : ER B g env σ H H0) (hi : env[i]? = some (.own ob)) (hs : σ[i]? = some (some (.ref a))) (w : Wr a H H') (h : OR B g.G g.ρ H' ob' a) (hk : ∀ c fs, ob' = .ins c fs → ∃ c' fs', ob = .ins c' fs') : ER B g (env.set i (Sl.own ob')) σ H' H0 where
  len := by rw [List.length_set]; exact R.len
  val := fun j x e => by
    by_cases hj : i = j
    · subst hj
      obtain ⟨il, _⟩ := List.getElem?_eq_some_iff.mp hi
      rw [List.getElem?_set_self il] at e
      cases e
    · rw [List.getElem?_set_ne hj] at e
      exact R.val j x e
  own := fun j x e => by
    by_cases hj : i = j
    · subst hj
      obtain ⟨il, _⟩ := List.getElem?_eq_some_iff.mp hi
      rw [List.getElem?_set_self il] at e
      cases e
      obtain ⟨b, k1, k2, k3, k4, k5⟩ := R.own i ob hi
      rw [hs] at k1
      cases k1
      exact ⟨a, hs, k2, k3, h, k5⟩
    · rw [List.getElem?_set_ne hj] at e
      obtain ⟨b, k1, k2, k3, k4, k5⟩ := R.own j x e
      have hb : b ≠ a := fun z => by
        subst z
        exact hj (R.ond i j ob x b hi e hs k1)
      exact ⟨b, k1, k2, k3, k4.wr w hb, k5⟩
  ond := fun j k oj ok c e1 e2 s1 s2 => by
    obtain ⟨il, _⟩ := List.getElem?_eq_some_iff.mp hi
    have tr : ∀ j oj, (env.set i (Sl.own ob'))[j]? = some (Sl.own oj) → ∃ o, env[j]? = some (Sl.own o) := fun j oj e => by
      by_cases hj : i = j
      · subst hj; exact ⟨ob, hi⟩
      · rw [List.getElem?_set_ne hj] at e; exact ⟨oj, e⟩
    obtain ⟨o1, z1⟩ := tr j oj e1
    obtain ⟨o2, z2⟩ := tr k ok e2
    exact R.ond j k o1 o2 c z1 z2 s1 s2
  slf := fun j c fs b e1 e2 => by
    by_cases hj : i = j
    · subst hj
      obtain ⟨il, _⟩ := List.getElem?_eq_some_iff.mp hi
      rw [List.getElem?_set_self il] at e1
      obtain ⟨c', fs', rfl⟩ := hk c fs (by injection e1 with e1; injection e1)
      exact R.slf i c' fs' b hi e2
    · rw [List.getElem?_set_ne hj] at e1
      exact R.slf j c fs b e1 e2

theorem mutV_kind {k : Bm} {ws : List W} {w : W} (e : mutV k ob ws = some (ob', w)) : ∀ c fs, ob' = .ins c fs → ∃ c' fs', ob = .ins c' fs' := by
  intro c fs h
  subst h
  unfold mutV at e
  split at e <;> (try split at e) <;> (try split at e) <;> first | (cases e; done) | cases e
theorem setV_kind {k v : W} (e : setV ob k v = some ob') : ∀ c fs, ob' = .ins c fs → ∃ c' fs', ob = .ins c' fs' := by
  intro c fs h
  subst h
  unfold setV at e
  split at e <;> (try split at e) <;> first | (cases e; done) | cases e
/-! ### methods that change -/
theorem OR.tyA {T : Tn} (hK : X.K = B.K) (M : MR B g m H) (h : OR B g.G g.ρ H ob a) (e : tyOf ob.w = some T) (hT : T ≠ .tuple) : TyA X T.s (.ref a) H := tyOf_ok hK M h.rd e hT
theorem VRs.dropLast {ws : List W} {vs : List V} (h : VRs B g.G g.ρ ws vs) : VRs B g.G g.ρ ws.dropLast vs.dropLast := by
  rw [List.dropLast_eq_take, List.dropLast_eq_take, h.length]
  exact VRs.take _ h
theorem VRs.rev : ∀ {ws : List W} {vs : List V}, VRs B g.G g.ρ ws vs → VRs B g.G g.ρ ws.reverse vs.reverse
  | [], vs, h => by
    cases h.zero
    exact VRs.nil
  | w :: ws, vs, h => by
    simp only [VRs] at h
    obtain ⟨u, us, rfl, h1, h2⟩ := h
    rw [List.reverse_cons, List.reverse_cons]
    exact VRs.app (VRs.rev h2) (VRs.cons h1 VRs.nil)
theorem mutV_ok {k : Bm} {ws : List W} {xs : List V} {w : W} {T : Tn} {Q : VK} (h : OR B g.G g.ρ H ob a) (hxs : VRs B g.G g.ρ ws xs)
    (e : mutV k ob ws = some (ob', w)) (eT : tyOf ob.w = some T)
    (q : ∀ z H', Wr a H H' → OR B g.G g.ρ H' ob' a → VR B g.G g.ρ w z → Q z H') : mAny X (bmId k T) (.ref a) xs H Q := by
  unfold mutV at e
  split at e
  case h_1 =>
    simp only [Ob.w, tyOf] at eT; cases eT
    simp only [bmId]
    split at e
    · rename_i hz
      cases e
      obtain ⟨vs, qa, ra⟩ := h
      obtain ⟨v, rfl, hv⟩ := hxs.one
      exact ⟨_, mt_append, a, vs, v, rfl, rfl, qa, by rw [← ra.length]; exact hz, q _ _ Wr.upd ⟨_, upd_same, VRs.app ra (VRs.cons hv VRs.nil)⟩ rfl⟩
    · cases e
  case h_2 =>
    simp only [Ob.w, tyOf] at eT; cases eT
    simp only [bmId]
    split at e
    · rename_i y hy
      cases e
      obtain ⟨vs, qa, ra⟩ := h
      cases hxs.zero
      rw [List.getLast?_eq_getElem?] at hy
      obtain ⟨v, hv, rv⟩ := ra.get hy
      rw [ra.length] at hv
      exact ⟨_, mt_pop, a, vs, v, rfl, rfl, qa, hv, q _ _ Wr.upd ⟨_, upd_same, ra.dropLast⟩ rv⟩
    · cases e
  case h_3 =>
    simp only [Ob.w, tyOf] at eT; cases eT
    simp only [bmId]
    cases e
    obtain ⟨vs, qa, ra⟩ := h
    cases hxs.zero
    exact ⟨_, mt_reverse, a, vs, rfl, rfl, qa, q _ _ Wr.upd ⟨_, upd_same, ra.rev⟩ rfl⟩
  case h_4 =>
    simp only [Ob.w, tyOf] at eT; cases eT
    simp only [bmId]
    cases e
    obtain ⟨vs, qa, ra⟩ := h
    cases hxs.zero
    exact ⟨_, mt_clear, a, vs, rfl, rfl, qa, q _ _ Wr.upd ⟨_, upd_same, VRs.nil⟩ rfl⟩
  case h_5 =>
    simp only [Ob.w, tyOf] at eT; cases eT
    simp only [bmId]
    split at e
    · rename_i hk
      split at e
      · rename_i v hv
        cases e
        obtain ⟨kvs, rfl, qa, rfl, ra⟩ := h
        obtain ⟨y, rfl, hy⟩ := hxs.one
        obtain ⟨q', rfl, rfl⟩ := keyV hk hy
        obtain ⟨z, e2, rz⟩ := (dget_rel ra).1 _ hv
        obtain ⟨d1, d2⟩ := ddrop_rel (q := q') ra
        exact ⟨_, mt_dpop1, a, q', kvs, z, rfl, rfl, qa, e2, q _ _ Wr.upd ⟨_, rfl, upd_same, d1, d2⟩ rz⟩
      · cases e
    · cases e
  case h_6 =>
    simp only [Ob.w, tyOf] at eT; cases eT
    simp only [bmId]
    split at e
    · rename_i hk
      obtain ⟨kvs, rfl, qa, rfl, ra⟩ := h
      obtain ⟨y, d, rfl, hy, hd⟩ := hxs.two
      obtain ⟨q', rfl, rfl⟩ := keyV hk hy
      split at e
      · rename_i v hv
        cases e
        obtain ⟨d1, d2⟩ := ddrop_rel (q := q') ra
        obtain ⟨z, e2, rz⟩ := (dget_rel ra).1 _ hv
        refine ⟨_, mt_dpop2, a, q', kvs, d, rfl, rfl, qa, fun z' e3 => ?_, fun e3 => ?_⟩
        · rw [e2] at e3
          cases e3
          exact q _ _ Wr.upd ⟨_, rfl, upd_same, d1, d2⟩ rz
        · rw [e2] at e3; cases e3
      · rename_i hv
        cases e
        refine ⟨_, mt_dpop2, a, q', kvs, d, rfl, rfl, qa, fun z' e3 => ?_, fun e3 => ?_⟩
        · rw [(dget_rel ra).2 hv] at e3; cases e3
        · exact q _ _ ⟨fun _ _ => rfl, _, qa⟩ ⟨kvs, rfl, qa, rfl, ra⟩ hd
    · cases e
  case h_7 => cases e
/-! ### o[i] = v -/
def pAny (X : Cx) : TSet := fun o i v H Q => ∃ t, PSet X t ∧ t o i v H Q
theorem pset_any : PSet X (pAny X) := by
  intro pins s σ H o i v ov iv u Q I r1 r2 r3 h
  obtain ⟨t, ht, q⟩ := h
  exact ht pins s σ H o i v ov iv u Q I r1 r2 r3 q
theorem setV_ok {k v : W} {y z : V} {Q : Hp → Prop} (hu : X.A.units + 1 < cLine) (h : OR B g.G g.ρ H ob a) (hk : VR B g.G g.ρ k y) (hv : VR B g.G g.ρ v z) (e : setV ob k v = some ob')
    (q : ∀ H', Wr a H H' → OR B g.G g.ρ H' ob' a → Q H') : pAny X (.ref a) y z H Q := by
  unfold setV at e
  split at e
  · split at e
    · rename_i j hj
      cases e
      obtain ⟨vs, qa, ra⟩ := h
      cases hk
      exact ⟨_, set_list, a, vs, _, j, rfl, rfl, qa, by rw [← ra.length]; exact hj, q _ Wr.upd ⟨_, upd_same, VRs.set hv j ra⟩⟩
    · cases e
  · split at e
    · rename_i hc
      cases e
      simp only [Bool.and_eq_true, decide_eq_true_eq] at hc
      obtain ⟨kvs, rfl, qa, rfl, ra⟩ := h
      obtain ⟨q', rfl, rfl⟩ := keyV hc.1 hk
      obtain ⟨d1, d2⟩ := dput_rel (q := q') hv ra
      refine ⟨_, set_dict hu, a, upd H a (.dK (putK kvs q' z)), rfl, DPut.k qa (by rw [List.length_map] at hc; exact hc.2), q _ Wr.upd ⟨_, rfl, upd_same, d1, d2⟩⟩
    · cases e
  · cases e
end
end Mi

set_option Elab.async false
set_option linter.all false
set_option maxRecDepth 100000
set_option maxHeartbeats 1000000
/-! Mi10: defs' promises, the context of a body. -/
namespace Mi
open PySem PySem.Spec L2
open PyProof.Rows (Fr News envOfC)

/-- a def's promise where no show is under way -/
structure FG (P : Program) (w : World) (K : PySem.W.Frag) (mg : Str → Option Value) (base : Heap) (k : Nat) (f : Addr) (fd : FuncData) (ps : List Str) (sp : Sp) : Prop where
  len : ∀ vs H Q E, sp vs H Q E → vs.length = ps.length
  run : ∀ (A : Around) (outer : List Env) (s : Shared) (H : Hp) (args : Args) (us : List Value) (vs : List V) (Q : VK) (E : XK), Room k A → A.guards = some [] → Env0 P w K mg base A outer s H → BindsTo s fd args (ps.zip us) → Vals vs us → sp vs H Q E →
    codeAny (model P w) A (.call (.ref f) args) (CR (L2.CX P w) outer P w H s Q E) s
theorem fn_ofG {P : Program} {w : World} {K : PySem.W.Frag} {mg : Str → Option Value} {base : Heap} {k : Nat} {f : Addr} {name qual : Str} {params : Arguments} {body : List Stmt} {scope : Scope} {dV kV doc pm cdv ct oc : Value} {an od : Option Addr}
    {osl : Array (Option Value)} {N ps : List Str} {sp : Sp} (lk : K.lookup f = some ⟨oc, od, .func (PySem.W.fnOf name qual params body scope dV kV doc pm an cdv ct), osl⟩) (hcd : PySem.W.codeIn K cdv qual = true) (S : FnScope N ps scope)
    (len : ∀ vs H Q E, sp vs H Q E → vs.length = ps.length)
    (hbody : ∀ (A : Around) (outer : List Env) (s : Shared) (H : Hp) (vs : List V) (Q : VK) (E : XK), Room k (A.deeper (envOfC qual scope s.heap.objs.size f cdv)) → A.guards = some [] → sp vs H Q E →
      ∃ t, PSs (cxOf (L2.CX P w) P w K mg base N qual scope f cdv A outer s H E) body t ∧ t { nx := fun _ H' => Q .non H', rt := Q } (start N vs) H) :
    FG P w K mg base (k + 1) f (PySem.W.fnOf name qual params body scope dV kV doc pm an cdv ct) ps sp := by
  refine ⟨len, fun A outer s H args us vs Q E hr hgd e0 hb r hsp => ?_⟩
  have hl := len _ _ _ _ hsp
  have KX : K.In s.heap := e0.mod.kin.keeps fun b o e => (e0.bs b o e).1
  have lim : s.heap.NoLimit := e0.mod.nolimit.keeps fun b o e => (e0.bs b o e).1
  have hkind : ∀ y ∈ ps.zip us, scope.names.lookup y.1 = some .local ∨ (scope.names.lookup y.1 = some .cell ∧ ((cellsFrom (s.heap.objs.size + 1) scope.names []).lookup y.1).isSome = true) := fun ⟨n, v⟩ hy => by
    rcases S.par n (List.of_mem_zip hy).1 with q | q
    · exact .inl q
    · exact .inr ⟨q, PySem.W.cellsFrom_some _ _ _ (.inl q)⟩
  refine codeAny_call_function hr.depth (KX _ _ lk) rfl S.co S.gen rfl (PySem.W.codeRec_of KX hcd) (hb _ _ _ _ ?_)
  refine wpAny_newFunctionEnv_cells S.kind hkind fun env he s1 x => ?_
  subst he
  refine ⟨lim.keeps x.toInCall.keep, codeAny_func ?_⟩
  obtain ⟨t, ht, hq⟩ := hbody A outer s H vs Q E (hr.deeper _) hgd hsp
  have I : Inv (cxOf (L2.CX P w) P w K mg base N qual scope f cdv A outer s H E) [] (start N vs) H s1 := inv_start S hr.hd e0 hl r x
  refine wpAny_mono (ht.run [] s1 (start N vs) H _ I hq) (fun fl s' hs => ?_) fun e s' hs => hs
  have fin : ∀ {σ' : L2.St} {H' : Hp} {v : V} {u : Value}, Inv (cxOf (L2.CX P w) P w K mg base N qual scope f cdv A outer s H E) [] σ' H' s' → RelV v u → Q v H' → CE outer P w H s Q u s' :=
    fun {σ' H' v u} J rv q => ⟨v, H', J.os, J.bare, J.base, J.hok, rv, q⟩
  cases fl with
  | ret u =>
    obtain ⟨v, σ', H', J, rv, q⟩ := hs
    exact fin J rv q
  | next =>
    obtain ⟨σ', H', J, q⟩ := hs
    exact fin (v := V.non) (u := Value.none) J rfl q
  | brk =>
    obtain ⟨_, _, _, q⟩ := hs
    exact False.elim q
  | cont =>
    obtain ⟨_, _, _, q⟩ := hs
    exact False.elim q

section
variable {X : Cx} {k : Nat} {f C : Addr} {fd : FuncData} {ps : List Str} {sp : Sp} {E : L2.St → XK} {σ : L2.St} {pins : List (Addr × Obj)} {H : Hp} {s : Shared} {Q : VK}
theorem run_fnG {us : List Value} {vs : List V} (F : FG X.prog X.w X.K X.mg X.base k f fd ps sp) (hr : Room k X.A) (hgd : X.A.guards = some []) (hb : Binds X.K fd ps []) (hx : PassesAt (L2.CX X.prog X.w) X σ (E σ))
    (I : Inv X pins σ H s) (r : Vals vs us) (h : sp vs H Q (E σ)) : wpAny (model X.prog X.w) X.A (call (.ref f) us) (EP X pins σ Q) X.xe s := by
  have hl : us.length = ps.length := by rw [← r.length]; exact F.len _ _ _ _ h
  have b := hb s us I.kIn (by rw [List.append_nil]; exact hl)
  rw [List.append_nil] at b
  refine wpAny_call (codeAny_mono (F.run X.A X.stack s H ⟨us, []⟩ us vs Q (E σ) hr hgd I.env0 b r h) fun r s' hq => ?_)
  cases r with
  | error e => exact hx pins H s e s' I hq
  | ok fl =>
    cases fl with
    | ret u => exact I.after hq
    | next => exact False.elim hq
    | brk => exact False.elim hq
    | cont => exact False.elim hq
/-- .. where the call stands in another room -/
theorem run_fnGA {A : Around} {us : List Value} {vs : List V} (F : FG X.prog X.w X.K X.mg X.base k f fd ps sp) (hr : Room k A) (hgd : A.guards = some []) (hf : A.frames = X.A.frames) (hb : Binds X.K fd ps []) (hx : PassesAt (L2.CX X.prog X.w) X σ (E σ))
    (I : Inv X pins σ H s) (r : Vals vs us) (h : sp vs H Q (E σ)) : wpAny (model X.prog X.w) A (call (.ref f) us) (EP X pins σ Q) X.xe s := by
  have hl : us.length = ps.length := by rw [← r.length]; exact F.len _ _ _ _ h
  have b := hb s us I.kIn (by rw [List.append_nil]; exact hl)
  rw [List.append_nil] at b
  have e0 : Env0 X.prog X.w X.K X.mg X.base A X.stack s H := ⟨by rw [hf]; exact I.ok.frames, I.env0.mod, I.env0.bs, I.env0.bsz, I.env0.funs, I.env0.frf, I.env0.hok, I.env0.bare⟩
  refine wpAny_call (codeAny_mono (F.run A X.stack s H ⟨us, []⟩ us vs Q (E σ) hr hgd e0 b r h) fun r s' hq => ?_)
  cases r with
  | error e => exact hx pins H s e s' I hq
  | ok fl =>
    cases fl with
    | ret u => exact I.after hq
    | next => exact False.elim hq
    | brk => exact False.elim hq
    | cont => exact False.elim hq
theorem make_guards {A : Around} {C : Addr} {us : List Value} {kw : List (Str × Value)} (h : A.guards = some []) : (A.under (.builtin "type.__call__" ⟨.ref C :: us, kw⟩)).guards = some [] := by
  have e : (Code.builtin "type.__call__" ⟨.ref C :: us, kw⟩).guards = [] := by
    have : ¬ "type.__call__" ∈ guardIds := by decide +kernel
    simp [Code.guards, Code.isGuard, this]
  unfold Around.under
  dsimp only
  rw [e]
  exact h
theorem run_makeG {us : List Value} {vs : List V} (M : Mk X.K C f) (F : FG X.prog X.w X.K X.mg X.base k f fd ps sp) (hr : Room (k + 1) X.A) (hgd : X.A.guards = some []) (hb : Binds X.K fd ps [])
    (hx : PassesAt (L2.CX X.prog X.w) X σ (E σ)) (I : Inv X pins σ H s) (r : Vals vs us)
    (h : ∀ x dx, H x = none → H dx = none → dx ≠ x → sp (.ref x :: vs) (upd (upd H dx (.own x)) x (.ins C dx [])) (fun v H2 => v = .non ∧ Q (.ref x) H2) (E σ)) :
    wpAny (model X.prog X.w) X.A (call (.ref C) us) (EP X pins σ Q) X.xe s := by
  have hq := h (s.heap.objs.size + 1) s.heap.objs.size (I.hok.fresh (Nat.le_succ _)) (I.hok.fresh (Nat.le_refl _)) (Nat.ne_of_lt (Nat.lt_succ_self _))
  have I2 := Inv.made (C := C) I
  have r2 : Vals (V.ref (s.heap.objs.size + 1) :: vs) (Value.ref (s.heap.objs.size + 1) :: us) := .cons rfl r
  have hl : (Value.ref (s.heap.objs.size + 1) :: us ++ []).length = ps.length := by
    have e := r2.length
    rw [F.len _ _ _ _ hq] at e
    rw [List.append_nil]
    exact e.symm
  have b := hb _ (Value.ref (s.heap.objs.size + 1) :: us) I2.kIn hl
  rw [List.append_nil] at b
  refine wpAny_call (make_map (f := f) I.kIn M.makes M.init (beq_iff_eq.mp M.fn) (codeAny_mono (F.run _ X.stack _ _ ⟨Value.ref (s.heap.objs.size + 1) :: us, []⟩ (Value.ref (s.heap.objs.size + 1) :: us) _ _ (E σ) (hr.make C us [])
    (make_guards hgd) (I2.env0.make C us []) b r2 hq) fun r s' hq' => ?_))
  cases r with
  | error e => exact hx pins _ _ e s' I2 hq'
  | ok fl =>
    cases fl with
    | ret u =>
      obtain ⟨v, H', I3, rv, ev, q3⟩ := I2.after hq'
      subst ev
      exact ⟨rv, ⟨V.ref (s.heap.objs.size + 1), H', I3, rfl, q3⟩⟩
    | next => exact False.elim hq'
    | brk => exact False.elim hq'
    | cont => exact False.elim hq'
end

/-! ### promises in the small language's terms -/
/-- an outcome of a call -/
abbrev relC (B : Tb) (Hs : Hp) : Gh → Hp → RV → V → Prop := fun g' H' rv v => RR B g' [] [] H' Hs rv v
def SpF (B : Tb) (n f np : Nat) : Sp := fun vs H Q E => ∃ g m ws, MR B g m H ∧ VRs B g.G g.ρ ws vs ∧ ws.length = np ∧ OkG B g H (relC B H) ((cfN B.T n).call f ws m) Q E
/-- an instance that its __init__ has filled, at x -/
abbrev relI (B : Tb) (x : Addr) : Gh → Hp → Ob → V → Prop := fun g' H' ob v => v = .non ∧ OR B g'.G g'.ρ H' ob x ∧ g'.G x = none ∧ x ∉ g'.ρ
def SpI (B : Tb) (n c np : Nat) : Sp := fun vs H Q E => ∃ g m ws x H0 vs', vs = .ref x :: vs' ∧ MR B g m H ∧ VRs B g.G g.ρ ws vs' ∧ ws.length + 1 = np ∧
  OR B g.G g.ρ H (.ins c []) x ∧ g.G x = none ∧ x ∉ g.ρ ∧ H0 x = none ∧ Ev g H0 g H ∧ OkG B g H0 (relI B x) ((cfN B.T n).new c ws m) Q E
structure FnC (B : Tb) (n : Nat) (f np : Nat) : Prop where
  ok : ∃ fd ps, ps.length = np ∧ FG B.P B.w B.K B.mg B.base (2 * n + 2) (B.fA f) fd ps (SpF B n f np) ∧ Binds B.K fd ps []
structure InC (B : Tb) (n : Nat) (c np : Nat) : Prop where
  ok : ∃ fd ps, ps.length = np ∧ FG B.P B.w B.K B.mg B.base (2 * n + 2) (B.iA c) fd ps (SpI B n c np) ∧ Binds B.K fd ps []
/-- all defs keep their promise at depth n -/
structure Fns (B : Tb) (n : Nat) : Prop where
  fn : ∀ f np ns b, B.T.fn f = some (np, ns, b) → FnC B n f np
  ini : ∀ c np ns b, B.T.ini c = some (np, ns, b) → InC B n c np

/-! ### what the text says of its names -/
def bltNames : List Str := ["len", "int", "max", "min", "str", "repr", "list", "tuple", "sorted", "sum", "abs", "dict", "set", "isinstance", "range", "enumerate", "zip", "reversed", "super", "bool"]
/-- the kinds of classes: plain instances, exceptions -/
structure Fc (B : Tb) : Prop where
  nog : ∀ x ∈ bltNames, B.mg x = none
  fn : ∀ f np ns b, B.T.fn f = some (np, ns, b) → B.T.fnm f ≠ Str.empty → B.mg (B.T.fnm f) = some (.ref (B.fA f)) ∧ PySem.W.keepIn B.K (.ref (B.fA f)) = true ∧ (B.T.fnm f == ("__debug__" : Str)) = false
  glob : ∀ k, B.T.gnm k ≠ Str.empty → (B.T.gnm k == ("__debug__" : Str)) = false ∧ ∃ v u, B.mg (B.T.gnm k) = some u ∧ RelV v u ∧ ∀ G ρ, VR B G ρ (B.T.glob k) v
  cls : ∀ c np ns b, B.T.ini c = some (np, ns, b) → Cls B.K (B.cA c) ∧ Mk B.K (B.cA c) (B.iA c) ∧ B.mg (B.T.cnm c) = some (.ref (B.cA c)) ∧ (B.T.cnm c == ("__debug__" : Str)) = false ∧ (B.T.fln c).Nodup ∧ (B.T.fln c).length < 1000
  fld : ∀ c f k, B.T.fld c f = some k → (B.T.fln c)[k]? = some (B.T.anm f) ∧ ((∃ i, B.T.ini c = some i) → NoAttr B.K (B.cA c) (B.T.anm f))
  prp : ∀ c f g, B.T.prp c f = some g → (∃ p, PropOf B.K (B.cA c) (B.T.anm f) p (B.fA g)) ∧ (∃ i, B.T.ini c = some i) ∧ ∃ ns b, B.T.fn g = some (1, ns, b)
  mth : ∀ c m g, B.T.mth c m = some g → Meth B.K (B.cA c) (B.T.mnm m) (B.fA g) ∧ (∃ i, B.T.ini c = some i) ∧ B.T.mnm m ∉ B.T.fln c ∧ (m = mAdd ∨ m = mMul → PySem.W.selfFirst B.K (B.cA c) = true)
  nf : ∀ c d i j, B.T.ini c = some i → B.T.ini d = some j → PySem.W.notFirst B.K (B.cA c) (.ref (B.cA d)) = true
  cnm : ∀ d, B.T.cnm d ≠ Str.empty → B.mg (B.T.cnm d) = some (.ref (B.cA d)) ∧ (B.T.cnm d == ("__debug__" : Str)) = false
  isi : ∀ c i, B.T.ini c = some i → PySem.W.findIn B.K (.ref (B.cA c)) "__class__" = some (some (.builtin "object.__class__")) ∧ PySem.W.mroIn B.K (B.cA c) (.type "object") = some true ∧
    ∀ t ∈ ["int", "bool", "str", "list", "tuple", "dict"], PySem.W.kitOne B.K (.ref (B.cA c)) (.type t) = some false
  isiG : PySem.W.specialIn B.K (.builtin "object.__class__") "__get__" = some (some (.builtin "getset_descriptor.__get__")) ∧ PySem.W.takesIn B.K (.builtin "object.__class__") = some true
  kit : ∀ c d i, B.T.ini c = some i → B.T.cnm d ≠ Str.empty → PySem.W.kitOne B.K (.ref (B.cA c)) (.ref (B.cA d)) = some (B.T.sub c d)
  kitT : ∀ d, B.T.cnm d ≠ Str.empty → ∀ t ∈ ["NoneType", "int", "bool", "str", "list", "tuple", "dict"], PySem.W.kitOne B.K (.type t) (.ref (B.cA d)) = some false
  dk : ∀ k, B.T.dnm k ≠ Str.empty → (B.T.dnm k == ("__debug__" : Str)) = false ∧ ∃ a es i, B.mg (B.T.dnm k) = some (.ref a) ∧ KDict B.K B.w a es i ∧ ∀ z, ∃ r, PySem.W.nsIn B.K a z = some r ∧ r.isSome = (B.T.dct k).any (fun p => decide (p.1 = z))
  xf : ∀ c f k, B.T.exn c = true → B.T.fld c f = some k → XfC B.K (B.cA c) ∧ PySem.W.findIn B.K (.ref (B.cA c)) (B.T.anm f) = some none ∧ (B.T.fln c)[k]? = some (B.T.anm f) ∧ (B.T.fln c).Nodup
  ne : ∀ c i, B.T.ini c = some i → B.T.cnm c ≠ Str.empty ∧ PySem.W.findIn B.K (.ref (B.cA c)) "__ne__" = some (some (.builtin "object.__ne__"))
  sm : SmK B.K
  sp : B.T.mnm mEq = "__eq__" ∧ B.T.mnm mAdd = "__add__" ∧ B.T.mnm mMul = "__mul__" ∧ B.T.mnm mLe = "__le__" ∧ B.T.mnm mIn = "__contains__" ∧ B.T.mnm mLen = "__len__"

/-- the static side: the names by slot, the block's scope, which names are stored as cells here -/
structure Sc where
  N : List Str
  scope : Scope
  fn : Str → Bool
/-- the context of a body -/
structure Gd (B : Tb) (sc : Sc) (X : Cx) (Wx : WX) (n : Nat) : Prop where
  prog : X.prog = B.P
  w : X.w = B.w
  K : X.K = B.K
  mg : X.mg = B.mg
  base : X.base = B.base
  N : X.N = sc.N
  nd : X.N.Nodup
  sco : X.env.scope = sc.scope
  fnn : X.fn = sc.fn
  calm : X.calm = true
  room : Room (2 * n + 3) X.A
  gd : X.A.guards = some []
  tk : Takes X Wx
  fns : Fns B n
  fc : Fc B
end Mi

set_option Elab.async false
set_option linter.all false
set_option maxRecDepth 100000
set_option maxHeartbeats 1000000
/-! Mi11: what is seen of the text. -/
namespace Mi
open PySem PySem.Spec L2
open PyProof.Rows (Fr News envOfC)

def visB (sc : Scope) (x : Str) : Bool := match sc.names.lookup x with | some .local => true | some .cell => true | some .free => true | _ => false
def glB (sc : Scope) (x : Str) : Bool := match sc.names.lookup x with | some .globalImplicit => true | _ => false
def locB (sc : Sc) (x : Str) : Bool := match sc.scope.names.lookup x with | some .local => true | some .cell => sc.fn x | _ => false
def dbg (x : Str) : Bool := !(x == ("__debug__" : Str)) && !(x == ("__classdict__" : Str))
theorem visB_ok {sc : Scope} {x : Str} (h : visB sc x = true) : Vis sc x := by
  unfold visB at h
  split at h <;> first | (cases h; done) | skip
  · exact .inl (by assumption)
  · exact .inr (.inl (by assumption))
  · exact .inr (.inr (by assumption))
theorem glB_ok {X : Cx} {x : Str} (h : glB X.env.scope x = true) : Gl X x := by
  unfold glB at h
  split at h
  · rename_i e
    exact e
  · cases h
theorem dbg_ok {x : Str} (h : dbg x = true) : (x == ("__debug__" : Str)) = false ∧ (x == ("__classdict__" : Str)) = false := by
  unfold dbg at h
  simpa using h
/-- no star -/
def ns : Expr → Bool | .Starred .. => false | _ => true
theorem star_cons {e : Expr} {es : List Expr} {env : Env} (h : ns e = true) : starEach (e :: es) env = (false, eval e env) :: starEach es env := by
  cases e <;> first | rfl | (simp [ns] at h)
theorem star_any {pos : Pos} {env : Env} : ∀ {es : List Expr}, es.all ns = true → (backTo pos (starEach es env)).any (·.1) = false
  | [], _ => rfl
  | e :: es, h => by
    simp only [List.all_cons, Bool.and_eq_true] at h
    rw [star_cons h.1]
    show (false || (backTo pos (starEach es env)).any (·.1)) = false
    rw [star_any h.2]
    rfl
theorem star_all {pos : Pos} {env : Env} : ∀ {es : List Expr}, es.all ns = true → (backTo pos (starEach es env)).all (fun x => !x.1) = true
  | [], _ => rfl
  | e :: es, h => by
    simp only [List.all_cons, Bool.and_eq_true] at h
    rw [star_cons h.1]
    show (!false && (backTo pos (starEach es env)).all (fun x => !x.1)) = true
    rw [star_all h.2]
    rfl
/-- not super() -/
def baseB : Expr → Bool | .Call (.Name _ _) [] [] _ => false | _ => true
theorem base_ok {o : Expr} {m : Str} {env : Env} (h : baseB o = true) : attributeBase o m env (eval o env) = eval o env := by
  unfold attributeBase
  split
  · simp [baseB] at h
  · rfl
/-- its truth is its value's -/
def plainT : Expr → Bool | .UnaryOp .Not _ _ => false | .BoolOp .. => false | .IfExp .. => false | .Compare .. => false | _ => true
theorem plainT_ok {e : Expr} {env : Env} (h : plainT e = true) : ∀ whole, isTrue e env whole = (do let v ← whole; standAt e.pos; holding [v] (truthy v)) := by
  intro whole
  cases e with
  | UnaryOp op x p => cases op <;> first | (simp [plainT] at h; done) | rfl
  | BoolOp => simp [plainT] at h
  | IfExp => simp [plainT] at h
  | Compare => simp [plainT] at h
  | _ => rfl
def noSl : Expr → Bool | .Slice .. => false | _ => true
theorem plainIx_ok {b : Expr} (h : noSl b = true) : PlainIx b := by
  intro o i
  cases b <;> first | rfl | (simp [noSl] at h)
/-- no comprehension stands at the top -/
def noComp : Expr → Bool | .ListComp .. => false | .SetComp .. => false | .DictComp .. => false | _ => true
theorem swaps_ok {e : Expr} {t : Option Expr} {n : Nat} {env : Env} (h : noComp e = true) : swapsWith e t n env = pure false := by
  cases e <;> first | rfl | (simp [noComp] at h)
def noSet : Expr → Bool | .Set .. => false | _ => true
theorem behind_ok {op : CmpOp} {b : Expr} (h : noSet b = true) : behindInMarks op b = false := by
  cases b <;> first | rfl | (simp [noSet] at h)
theorem folded_ok {e : Expr} {env : Env} (h : noSet e = true) : ∀ x, foldedSetIterable e env x = pure x := by
  intro x
  cases e <;> first | rfl | (simp [noSet] at h)
end Mi

set_option Elab.async false
set_option linter.all false
set_option maxRecDepth 100000
set_option maxHeartbeats 1000000
/-! Mi12: expressions. -/
namespace Mi
open PySem PySem.Spec L2
open PyProof.Rows (Fr News envOfC)

/-! ### what values do, the slots in sight -/
section
variable {X : Cx} {a b c : Expr} {ta tb tc : TE} {pos : Pos}
def opS (X : Cx) (f : Value → Value → Sem Value) (σ : L2.St) : R2 := fun x y H Q => ∀ (pins : List (Addr × Obj)) (s : Shared) (v u : Value), Inv X pins σ H s → RelV x v → RelV y u → wpAny (model X.prog X.w) X.A (f v u) (EP X pins σ Q) X.xe s
theorem opS_of {f : Value → Value → Sem Value} {σ : L2.St} {x y : V} {H : Hp} {Q : VK} (h : rAny X f x y H Q) : opS X f σ x y H Q := by
  obtain ⟨r, hr, q⟩ := h
  exact fun pins s v u I rx ry => hr pins s σ H x y v u Q I rx ry q
def tOpS (X : Cx) (f : Value → Value → Sem Value) (ta tb : TE) : TE := fun σ H Q => ta σ H fun x H1 => tb σ H1 fun y H2 => opS X f σ x y H2 Q
theorem pe_opS {op : Operator} (ha : PE X a ta) (hb : PE X b tb) : PE X (.BinOp a op b pos) (tOpS X (binaryOp op) ta tb) :=
  ⟨fun pins s σ H Q I h => wpAny_BinOp (binT ha hb I h fun v u s2 x y H2 I2 rx ry q => q pins s2 v u I2 rx ry)⟩
theorem pe_cmpS {op : CmpOp} (ha : PE X a ta) (hb : PE X b tb) (hm : behindInMarks op b = false) : PE X (.Compare a [op] [b] pos) (tOpS X (compareOp op) ta tb) :=
  ⟨fun pins s σ H Q I h => wpAny_Compare1 (binT ha hb I h fun v u s2 x y H2 I2 rx ry q => q pins s2 v u I2 rx ry) hm⟩
theorem pt_cmpS {op : CmpOp} (ha : PE X a ta) (hb : PE X b tb) (hm : behindInMarks op b = false) : PT X (.Compare a [op] [b] pos) (tTest (tOpS X (compareOp op) ta tb)) := by
  refine ⟨fun pins s σ H Q I h => ?_⟩
  refine wpAny_isTrue_Compare1 (thn (ha.run pins s σ H _ I h) fun v s1 ⟨x, H1, I1, r1, q1⟩ => thn (hb.run pins s1 σ H1 _ I1 q1) fun u s2 ⟨y, H2, I2, r2, q2⟩ =>
    thn (q2 pins s2 v u I2 r1 r2) fun c s3 ⟨z, H3, I3, r3, k, e, q3⟩ => ?_) hm
  subst e
  cases r3
  exact wpAny_truthy_bool ⟨H3, I3, q3⟩
def tChainS (X : Cx) (op op' : CmpOp) (ta tb tc : TE) : TE := fun σ H Q => ta σ H fun x H1 => tb σ H1 fun y H2 => opS X (compareOp op) σ x y H2 fun z H3 => ∃ k, z = .bl k ∧
  (if k = true then tc σ H3 fun w' H4 => opS X (compareOp op') σ y w' H4 Q else Q (.bl false) H3)
theorem pe_chainS {op op' : CmpOp} (ha : PE X a ta) (hb : PE X b tb) (hc : PE X c tc) (hm : lastMarks [op, op'] [b, c] = false) : PE X (.Compare a [op, op'] [b, c] pos) (tChainS X op op' ta tb tc) := by
  refine ⟨fun pins s σ H Q I h => ?_⟩
  refine PyProof.Rows.Compare_chain (thn (ha.run pins s σ H _ I h) fun v s1 ⟨x, H1, I1, r1, q1⟩ => PyProof.Rows.chain_link (thn (hb.run pins s1 σ H1 _ I1 q1) fun u s2 ⟨y, H2, I2, r2, q2⟩ =>
    thn (q2 pins s2 v u I2 r1 r2) fun d s3 ⟨z, H3, I3, r3, k, e, q3⟩ => ?_)) hm
  subst e
  cases r3
  refine wpAny_truthy_bool ?_
  cases k with
  | false => exact PyProof.Rows.ite_ff ⟨.bl false, H3, I3, rfl, q3⟩
  | true => exact PyProof.Rows.ite_tt (PyProof.Rows.chain_last (thn (hc.run pins s3 σ H3 _ I3 q3) fun w' s4 ⟨z', H4, I4, r4, q4⟩ => q4 pins s4 u w' I4 r2 r4))
theorem pt_chainS {op op' : CmpOp} (ha : PE X a ta) (hb : PE X b tb) (hc : PE X c tc) (hm : lastMarks [op, op'] [b, c] = false) : PT X (.Compare a [op, op'] [b, c] pos) (tTest (tChainS X op op' ta tb tc)) := by
  refine ⟨fun pins s σ H Q I h => ?_⟩
  refine PyProof.Rows.isTrue_chain (thn (ha.run pins s σ H _ I h) fun v s1 ⟨x, H1, I1, r1, q1⟩ => PyProof.Rows.test_link (thn (hb.run pins s1 σ H1 _ I1 q1) fun u s2 ⟨y, H2, I2, r2, q2⟩ =>
    thn (q2 pins s2 v u I2 r1 r2) fun d s3 ⟨z, H3, I3, r3, k, e, q3⟩ => ?_)) hm
  subst e
  cases r3
  refine wpAny_truthy_bool ?_
  cases k with
  | false =>
    obtain ⟨k', e', q'⟩ := q3
    cases e'
    exact PyProof.Rows.ite_ff ⟨H3, I3, q'⟩
  | true =>
    refine PyProof.Rows.ite_tt (PyProof.Rows.test_last (thn (hc.run pins s3 σ H3 _ I3 q3) fun w' s4 ⟨z', H4, I4, r4, q4⟩ => thn (q4 pins s4 u w' I4 r2 r4) fun d' s5 ⟨z2, H5, I5, r5, k2, e2, q5⟩ => ?_))
    subst e2
    cases r5
    exact wpAny_truthy_bool ⟨H5, I5, q5⟩
end

/-! ### outcomes -/
section
variable {B : Tb} {g g' gc : Gh} {H H' Hc Hs H0 : Hp} {m m' mc : List Ob} {env : List Sl} {σ : List (Option V)} {Wx : WX} {cf : CF}
theorem RR.back {rv : RV} {v : V} (e : Ev g H gc Hc) (h : RR B g' env σ H' Hc rv v) : RR B g' env σ H' H rv v := by
  cases rv with
  | val w => exact h
  | new ob =>
    obtain ⟨a, h1, h2, h3, h4, h5⟩ := h
    exact ⟨a, h1, h2, h3, h4, e.none h5⟩
  | own i => exact h
theorem OkG.to {α β : Type} {rel rel' : Gh → Hp → α → β → Prop} {r : Out α} {Q : β → Hp → Prop} {We : Value → Option Addr → Hp → Prop}
    (e : Ev g H gc Hc) (h : OkG B g H rel r Q We) (k : ∀ g' H' x y, rel' g' H' x y → rel g' H' x y) : OkG B gc Hc rel' r Q We := by
  cases r with
  | ok x m1 => exact fun g1 y H1 e1 M z => h g1 y H1 (e.trans e1) M (k _ _ _ _ z)
  | exc x m1 => exact fun g1 H1 c d e1 M q => h g1 H1 c d (e.trans e1) M (q.back e)
  | stuck => exact h
theorem relC_relR (e : Ev g H gc Hc) {g' : Gh} {H' : Hp} {rv : RV} {v : V} (h : relC B Hc g' H' rv v) : relR B env σ H g' H' rv v := by
  cases rv with
  | val w => exact h
  | new ob =>
    obtain ⟨a, h1, h2, h3, h4, h5⟩ := h
    exact ⟨a, h1, h2, h3, h4, e.none h5⟩
  | own i =>
    obtain ⟨_, ob, h2⟩ := h
    simp at h2
/-- what is lifted -/
theorem OkG.lift {rv? : Option RV} {Q : VK} {We : Value → Option Addr → Hp → Prop} (h : OkG B g H (relR B env σ H) (Mi.lift rv? m) Q We) : ∃ rv, rv? = some rv ∧ ∀ g' z H', Ev g H g' H' → MR B g' m H' → RR B g' env σ H' H rv z → Q z H' := by
  cases rv? with
  | none => exact h.elim
  | some rv => exact ⟨rv, rfl, fun g' z H' e M r => h g' z H' e M r⟩
/-- a result that is frozen where it is new -/
def FR (B : Tb) (g : Gh) (env : List Sl) (σ : List (Option V)) : RV → V → Prop
  | .val w, v => VR B g.G g.ρ w v
  | .new ob, v => VR B g.G g.ρ ob.w v
  | .own i, v => σ[i]? = some (some v) ∧ ∃ ob, env[i]? = some (.own ob)
theorem FR.ev {rv : RV} {v : V} (h : FR B g env σ rv v) (e : Ev g H g' H') : FR B g' env σ rv v := by
  cases rv with
  | val w => exact e.vr h
  | new ob => exact e.vr h
  | own i => exact h
theorem FR.esc {rv : RV} {v : V} {w : W} (h : FR B g env σ rv v) (e : esc rv = some w) : VR B g.G g.ρ w v := by
  cases rv with
  | val u => cases e; exact h
  | new ob => cases e; exact h
  | own i => cases e
theorem Ob.w_cell (ob : Ob) (i : Nat) : ob.w ≠ .cell i := by cases ob <;> (intro h; cases h)
theorem FR.rd {rv : RV} {v : V} {u : W} (M : MR B g m H) (R : ER B g env σ H H0) (h : FR B g env σ rv v) (e : rd env m rv = some u) : RD B g H u v := by
  cases rv with
  | val w => exact rd_ok (Hs := H) M R (show RR B g env σ H H (.val w) v from h) e
  | new ob =>
    cases e
    exact RD.of M h (Ob.w_cell ob)
  | own i => exact rd_ok (Hs := H) M R (show RR B g env σ H H (.own i) v from h) e
theorem FR.of {rv : RV} {v : V} (M : MR B g' m H') (ev : Ev g H g' H') (h : RR B g' env σ H' H rv v) : ∃ g2, Ev g H g2 H' ∧ MR B g2 m H' ∧ FR B g2 env σ rv v := by
  cases rv with
  | val w => exact ⟨g', ev, M, h⟩
  | new ob =>
    obtain ⟨g2, e, M2, v2⟩ := esc_ok (σ := σ) (env := env) M ev h (w := ob.w) rfl
    exact ⟨g2, e, M2, v2⟩
  | own i => exact ⟨g', ev, M, h⟩
theorem tE_bindF {γ δ : Type} {rel2 : Gh → Hp → γ → δ → Prop} {a : E} {f : RV → Mem → Out γ} {Q : δ → Hp → Prop} {Kt : VK}
    (Mc : MR B gc mc Hc) (Rc : ER B gc env σ Hc H0) (ev : Ev g H gc Hc) (h : OkG B g H rel2 ((evE B.T cf env a mc).bind f) Q (fun c d H' => Wx c d σ H'))
    (K : ∀ rv m1 g1 v H1, evE B.T cf env a mc = .ok rv m1 → Ev g H g1 H1 → Ev gc Hc g1 H1 → MR B g1 m1 H1 → ER B g1 env σ H1 H0 → FR B g1 env σ rv v → OkG B g H rel2 (f rv m1) Q (fun c d H' => Wx c d σ H') → Kt v H1) :
    tE B cf Wx a σ Hc Kt := by
  refine tE_bind Mc Rc ev h fun rv m1 g1 v H1 e1 e2 e3 M1 R1 r h1 => ?_
  obtain ⟨g2, k1, k2, k3⟩ := FR.of M1 e3 r
  exact K rv m1 g2 v H1 e1 (ev.trans k1) k1 k2 (Rc.ev k1) k3 h1
end
end Mi

set_option Elab.async false
set_option linter.all false
set_option maxRecDepth 100000
set_option maxHeartbeats 1000000
/-! MiB: x != y by x's own __eq__. -/
namespace Mi
open PySem PySem.Spec L2
open PyProof.Rows (Fr News envOfC)
section
open PySem.W
variable {prog : Program} {w : World} {A : Around} {E : Value → Shared → Prop} {s : Shared} {K : Frag} {x C L f : Addr} {h₀ : Heap} {m : Str → Option Value} {ox : Obj} {od : Option Obj} {b tb : Value}
theorem objNe_K {Q : Fin → Shared → Prop} (hu : A.units < cLine) (X : K.In s.heap) (I : InstAt s.heap x ox C od) (hs : findIn K (.ref C) "__eq__" = some (some (.ref f))) (hf : isFn K (.ref f) = true)
    (h : wpAny (model prog w) A (call (.ref f) [.ref x, b]) (fun v s' => ∃ k, v = .bool k ∧ Q (.done (.ret (.bool (!k)))) s') E s) :
    wpAny (model prog w) A (Builtin.«object.__ne__» ⟨[.ref x, b], []⟩) Q E s := by
  unfold Builtin.«object.__ne__»
  repeat (first
    | with_reducible refine wpAny_cRoomFor hu ?_
    | (refine wpAny_bind (m := callSpecialIfBound? (.ref x) (Str.ofString "__eq__") [b])
        (ifBound_K X I hs hf (wpAny_mono h (fun r s' hr => by
          obtain ⟨k, rfl, hq⟩ := hr
          repeat (first | exact hq | exact wpAny_pure hq | exact wpAny_truthy_bool hq | (refine wpAny_bind (m := truthy (.bool _)) (wpAny_truthy_bool ?_)) | wp_step)) fun _ _ e => e)))
    | wp_step)
theorem check_object {M : Model} {id : String} {rest : List Value} {n : String} {Q : Unit → Shared → Prop} (hk : builtinKind id = some .slot) (hsp : splitId id = some ("object", n)) (ha : argsOk id ⟨.ref x :: rest, []⟩) (X : K.In s.heap) (I : InstAt s.heap x ox C od)
    (hm : mroIn K C (.type "object") = some true) (hq : Q () s) : wpAny M A (checkBuiltinCall id ⟨.ref x :: rest, []⟩) Q E s := by
  simp only [checkBuiltinCall, hk, hsp]
  refine wpAny_bind ?_
  unfold isInstance
  refine wpAny_bind (I.type.here ((looks_mroIn X hm).here ?_))
  repeat (first | wp_step)
  cases hsig : Manifest.signature? id with
  | none => exact wpAny_pure hq
  | some sig =>
    simp only [argsOk, hsig] at ha
    have h2 : Bind.checkArgs id sig ⟨.ref x :: rest, []⟩ = pure () := ha
    show wpAny M A (Bind.checkArgs id sig ⟨.ref x :: rest, []⟩) Q E _
    rw [h2]; exact wpAny_pure hq
theorem ne_K {Q : Value → Shared → Prop} (hu : A.units + 1 < cLine) (F : Fr h₀ L s.heap m) (X₀ : K.In h₀) (I : InstAt s.heap x ox C od) (hb : Looks (model prog w) s.heap (typeOf b) tb) (hn : notFirst K C tb = true)
    (hne : findIn K (.ref C) "__ne__" = some (some (.builtin "object.__ne__"))) (hmo : mroIn K C (.type "object") = some true) (hs : findIn K (.ref C) "__eq__" = some (some (.ref f))) (hf : isFn K (.ref f) = true)
    (h : wpAny (model prog w) A.in1 (call (.ref f) [.ref x, b]) (fun v s' => ∃ k, v = .bool k ∧ Q (.bool (!k)) s') E s) : wpAny (model prog w) A (richCompare .NotEq (.ref x) b) Q E s := by
  have X := X₀.keeps F.keep
  have one : wpAny (model prog w) A (tryCompare (.ref x) "__ne__" b) (fun r s' => ∃ v, r = some v ∧ Q v s') E s := by
    simp only [tryCompare]
    have call1 : wpAny (model prog w) A (call (.builtin "object.__ne__") [.ref x, b]) (fun v s' => ∃ k, v = .bool k ∧ Q (.bool k) s') E s := by
      refine wpAny_call (codeAny_call_builtin PySem.F.cmp_object.ne.plain PySem.F.cmpEntry_ne (check_object PySem.F.cmpKind_ne PySem.F.cmpSplit_ne (PySem.F.cmpArgs_ne _ _) X I hmo (objNe_K (A := A.in1) hu X I hs hf (wpAny_mono h (fun v s' hv => ?_) fun _ _ e => e))))
      obtain ⟨k, rfl, hq⟩ := hv
      exact ⟨k, rfl, !k, rfl, hq⟩
    refine wpAny_bind ?_
    simp only [callSpecialIfBound?, bindSpecialIfBound?]
    refine wpAny_holding (wpAny_bind (wpAny_bind (wpAny_bind (I.type.here ((looks_findIn X hne).here ?_)))))
    simp only [PySem.F.cmp_object.ne.bind]
    refine wpAny_bind (wpAny_askSetting (wpAny_ite ?_))
    have fin : ∀ {R : Option Value → Shared → Prop}, (∀ k s', Q (.bool k) s' → R (some (.bool k)) s') → wpAny (model prog w) A (call (.builtin "object.__ne__") ([.ref x] ++ [b]) >>= fun v => pure (some v)) R E s := fun hR =>
      wpAny_bind (wpAny_mono call1 (fun v s' hv => by obtain ⟨k, rfl, hq⟩ := hv; exact wpAny_pure (hR k s' hq)) fun _ _ h' => h')
    split
    · exact wpAny_bind (wpAny_pure (wpAny_pure (fin fun k s' hq => wpAny_pure ⟨_, rfl, hq⟩)))
    · exact wpAny_tryCatch (wpAny_bind (wpAny_pure (wpAny_pure (fin fun k s' hq => wpAny_pure ⟨_, rfl, hq⟩))))
  unfold richCompare
  simp only [oneThing_ref]
  refine wpAny_holding (wpAny_bind (wpAny_cRoomFor (by omega) ?_))
  refine wpAny_bind (I.type.here (wpAny_bind (hb.here ?_)))
  rw [cmpInfo_NotEq]
  split
  · rename_i q
    have e : subIn K tb (.ref C) = some false := by
      rcases Bool.or_eq_true_iff.mp hn with e | e
      · rw [beq_iff_eq.mp e] at q; simp at q
      · exact beq_iff_eq.mp e
    refine wpAny_bind ((looks_subIn X e).here ?_)
    simp only [Bool.false_eq_true, if_false]
    refine wpAny_bind (wpAny_mono one (fun r s' z => ?_) fun _ _ e => e)
    obtain ⟨v, rfl, hq⟩ := z
    exact wpAny_pure hq
  · refine wpAny_bind (wpAny_pure ?_)
    simp only [Bool.false_eq_true, if_false]
    refine wpAny_bind (wpAny_mono one (fun r s' z => ?_) fun _ _ e => e)
    obtain ⟨v, rfl, hq⟩ := z
    exact wpAny_pure hq
end
/-- a value's type -/
def tyVal (B : Tb) : W → Value
  | .non => .type "NoneType" | .bl _ => .type "bool" | .int _ => .type "int" | .str _ => .type "str"
  | .tup _ => .type "tuple" | .lst _ => .type "list" | .scr _ => .type "list" | .dct _ _ _ => .type "dict"
  | .ins c _ => .ref (B.cA c) | .exc c _ => .ref (B.cA c) | .cell _ => .none
section
variable {B : Tb} {X : Cx} {Wx : WX} {n : Nat} {sc : Sc} {H0 : Hp} {env : List Sl} {σ : List (Option V)}
theorem SqT.tyX {K : PySem.W.Frag} {H : Hp} {a : Addr} {vs : List V} (h : SqT K H a vs) : TyX K H (.ref a) (.type "tuple") := by
  rcases h with (h | ⟨o, h⟩) | ⟨o, its, n, hk, hc, _⟩
  · exact .base (.tup h)
  · exact .fTuple h
  · exact .kTuple hk hc
theorem SqL.tyX {K : PySem.W.Frag} {H : Hp} {a : Addr} {vs : List V} (h : SqL K H a vs) : TyX K H (.ref a) (.type "list") := by
  rcases h with (h | ⟨o, h⟩) | ⟨o, its, n, hk, hc, _⟩
  · exact .base (.lst h)
  · exact .base (.frz h)
  · exact .kList hk hc
theorem tyX_of {g : Gh} {H : Hp} {m : Mem} {u : W} {v : V} (D : Gd B sc X Wx n) (M : MR B g m H) (h : RD B g H u v) (hx : ∀ c fs, u ≠ .exc c fs) (hi : ∀ c fs, u = .ins c fs → (B.T.ini c).isSome = true) : TyX X.K H v (tyVal B u) := by
  cases u with
  | non => cases h; exact .base .non
  | bl b => cases h; exact .base (.bl _)
  | int b => cases h; exact .base (.int _)
  | str b => cases h; exact .base (.str _)
  | tup xs =>
    obtain ⟨a, vs, rfl, qa, ra⟩ := RD.tupE h
    exact SqT.tyX (by rw [D.K]; exact SqT.mr M qa)
  | lst xs =>
    obtain ⟨a, vs, rfl, qa, ra⟩ := h
    exact .base (.lst qa)
  | scr xs =>
    obtain ⟨a, rfl, qa⟩ := h
    exact SqL.tyX (by rw [D.K]; exact qa)
  | dct nn ks us =>
    obtain ⟨a, kvs, rfl, _, qa, _⟩ := h
    rcases qa with qa | ⟨o, qa⟩
    · exact .base (.dK qa)
    · exact .fDict qa
  | ins c fs =>
    obtain ⟨a, dx, vs, rfl, qa, _⟩ := h
    obtain ⟨i, hi'⟩ := Option.isSome_iff_exists.mp (hi c fs rfl)
    obtain ⟨h1, h2, _⟩ := D.fc.isi c i hi'
    obtain ⟨hc, _⟩ := D.fc.cls c i.1 i.2.1 i.2.2 hi'
    exact .base (.ins qa (by rw [D.K]; exact hc) (by rw [D.K]; exact h1) (by rw [D.K]; exact D.fc.isiG.1) (by rw [D.K]; exact D.fc.isiG.2) (by rw [D.K]; exact h2))
  | exc c fs => exact absurd rfl (hx c fs)
  | cell i => exact h.elim
end
end Mi

set_option Elab.async false
set_option linter.all false
set_option maxRecDepth 100000
set_option maxHeartbeats 1000000
/-! Mi13: calls and operators. -/
namespace Mi
open PySem PySem.Spec L2
open PyProof.Rows (Fr News envOfC)

section
variable {B : Tb} {X : Cx} {Wx : WX} {n : Nat} {sc : Sc} {g g1 g2 gc : Gh} {H H1 H2 Hc Hs H0 : Hp} {m m1 m2 mc : List Ob} {env : List Sl} {σ : List (Option V)}
theorem Gd.un (D : Gd B sc X Wx n) : X.A.units + 65 < cLine := by have := D.room.un; omega
theorem Gd.un1 (D : Gd B sc X Wx n) : X.A.units + 1 < cLine := by have := D.room.un; omega
theorem Gd.pa (D : Gd B sc X Wx n) (σ : L2.St) : PassesAt (L2.CX X.prog X.w) X σ (WE Wx σ) := passAt D.tk σ
theorem Gd.fnr (D : Gd B sc X Wx n) : Room (2 * n + 2) X.A := D.room.mono (by omega)
/-- a call of a def by values -/
theorem call_ok {f np : Nat} {ns : Nat} {b : Ss} {ws : List W} {vs : List V} {us : List Value} {Q : VK} {pins : List (Addr × Obj)} {s : Shared} (D : Gd B sc X Wx n) (hf : B.T.fn f = some (np, ns, b))
    (M : MR B g1 m1 H1) (e : Ev g H g1 H1) (hv : VRs B g1.G g1.ρ ws vs) (hl : ws.length = np) (h : OkG B g H (relR B env σ H) ((cfN B.T n).call f ws m1) Q (fun c d H' => Wx c d σ H'))
    (I : Inv X pins σ H1 s) (r : Vals vs us) : wpAny (model X.prog X.w) X.A (call (.ref (B.fA f)) us) (EP X pins σ Q) X.xe s := by
  obtain ⟨fd, ps, hps, F, hb⟩ := (D.fns.fn f np ns b hf).ok
  rw [← D.prog, ← D.w, ← D.K, ← D.mg, ← D.base] at F
  rw [← D.K] at hb
  exact run_fnG F D.fnr D.gd hb (D.pa σ) I r ⟨g1, m1, ws, M, hv, hl, h.to e fun g' H' x y z => relC_relR e z⟩
theorem call_okA {A : Around} {f np : Nat} {ns : Nat} {b : Ss} {ws : List W} {vs : List V} {us : List Value} {Q : VK} {pins : List (Addr × Obj)} {s : Shared} (D : Gd B sc X Wx n) (hA : Room (2 * n + 2) A) (hgA : A.guards = some []) (hfA : A.frames = X.A.frames) (hf : B.T.fn f = some (np, ns, b))
    (M : MR B g1 m1 H1) (e : Ev g H g1 H1) (hv : VRs B g1.G g1.ρ ws vs) (hl : ws.length = np) (h : OkG B g H (relR B env σ H) ((cfN B.T n).call f ws m1) Q (fun c d H' => Wx c d σ H'))
    (I : Inv X pins σ H1 s) (r : Vals vs us) : wpAny (model X.prog X.w) A (call (.ref (B.fA f)) us) (EP X pins σ Q) X.xe s := by
  obtain ⟨fd, ps, hps, F, hb⟩ := (D.fns.fn f np ns b hf).ok
  rw [← D.prog, ← D.w, ← D.K, ← D.mg, ← D.base] at F
  rw [← D.K] at hb
  exact run_fnGA F hA hgA hfA hb (D.pa σ) I r ⟨g1, m1, ws, M, hv, hl, h.to e fun g' H' x y z => relC_relR e z⟩
/-- the depth is not nought where a call does not get stuck -/
theorem cf_fn {f : Nat} {ws : List W} {Q : VK} {We : Value → Option Addr → Hp → Prop} {rel : Gh → Hp → RV → V → Prop} (h : OkG B g H rel ((cfN B.T n).call f ws m) Q We) : ∃ np ns b, B.T.fn f = some (np, ns, b) ∧ ws.length = np := by
  cases n with
  | zero => exact h.elim
  | succ n =>
    unfold cfN at h
    dsimp only at h
    split at h
    · rename_i np ns b hf
      split at h
      · rename_i hl
        exact ⟨np, ns, b, hf, hl⟩
      · exact h.elim
    · exact h.elim
theorem cf_new {c : Nat} {ws : List W} {Q : VK} {We : Value → Option Addr → Hp → Prop} {rel : Gh → Hp → Ob → V → Prop} (h : OkG B g H rel ((cfN B.T n).new c ws m) Q We) : ∃ np ns b, B.T.ini c = some (np, ns, b) ∧ ws.length + 1 = np := by
  cases n with
  | zero => exact h.elim
  | succ n =>
    unfold cfN at h
    dsimp only at h
    split at h
    · rename_i np ns b hf
      split at h
      · rename_i hl
        exact ⟨np, ns, b, hf, hl⟩
      · exact h.elim
    · exact h.elim
/-- what rd tells of an instance -/
theorem rd_ins {rv : RV} {v : V} {c : Nat} {fs : List W} (M : MR B g m H) (R : ER B g env σ H H0) (h : RR B g env σ H Hs rv v) (e : rd env m rv = some (.ins c fs)) :
    ∃ a dx vs, v = .ref a ∧ H a = some (.ins (B.cA c) dx ((B.T.fln c).zip vs)) ∧ fs.length ≤ (B.T.fln c).length ∧ VRs B g.G g.ρ fs vs := rd_ok M R h e
theorem look_zip {fln : List Str} {vs : List V} {m : Str} (h : m ∉ fln) : (fln.zip vs).lookup m = none := by
  induction fln generalizing vs with
  | nil => rfl
  | cons f fs ih =>
    cases vs with
    | nil => rfl
    | cons v vs =>
      simp only [List.mem_cons, not_or] at h
      show List.lookup m ((f, v) :: fs.zip vs) = none
      rw [List.lookup_cons]
      have : (m == f) = false := by simpa using h.1
      rw [this]
      exact ih h.2
theorem look_zip_at : ∀ {fln : List Str} {vs : List V} {k : Nat} {f : Str} {v : V}, fln.Nodup → fln[k]? = some f → vs[k]? = some v → (fln.zip vs).lookup f = some v
  | [], _, _, _, _, _, h, _ => by simp at h
  | _ :: _, [], _, _, _, _, _, h => by simp at h
  | g :: fln, u :: vs, 0, f, v, nd, h1, h2 => by
    simp at h1 h2
    subst h1 h2
    simp
  | g :: fln, u :: vs, k + 1, f, v, nd, h1, h2 => by
    have h1' : fln[k]? = some f := by simpa using h1
    have hne : f ≠ g := fun z => (List.nodup_cons.mp nd).1 (z ▸ List.mem_of_getElem? h1')
    show List.lookup f ((g, u) :: fln.zip vs) = some v
    rw [List.lookup_cons]
    have : (f == g) = false := by simpa using hne
    rw [this]
    exact look_zip_at (List.nodup_cons.mp nd).2 h1' (by simpa using h2)

/-! ### operators -/
theorem inst_of {pins : List (Addr × Obj)} {s : Shared} {a C dx : Addr} {fs : List (Str × V)} (I : Inv X pins σ H s) (h : H a = some (.ins C dx fs)) : ∃ od, PySem.W.InstAt s.heap a (PySem.W.instObj C dx) C (some od) := by
  obtain ⟨mA, O, _⟩ := ins_get I.hok h
  obtain ⟨od, J, _⟩ := O.look
  exact ⟨od, J⟩
theorem dun_add : PySem.dunder (Operator.info .Add).2 = ("__add__" : Str) := by decide +kernel
theorem dun_mul : PySem.dunder (Operator.info .Mult).2 = ("__mul__" : Str) := by decide +kernel
theorem binG_ok {op : Bop} {rx ry : RV} {x y : V} {Q : VK} (D : Gd B sc X Wx n) (M : MR B g1 m1 H1) (R : ER B g1 env σ H1 H0) (e : Ev g H g1 H1) (hx : FR B g1 env σ rx x) (hy : FR B g1 env σ ry y)
    (h : OkG B g H (relR B env σ H) (binG B.T (cfN B.T n) env op rx ry m1) Q (fun c d H' => Wx c d σ H')) : opS X (binaryOp op.py) σ x y H1 Q := by
  unfold binG at h
  split at h
  · rename_i u v hu hv
    split at h
    · -- an instance's own method
      rename_i c fs d gs
      split at h
      · rename_i hcd
        obtain ⟨hcd, how⟩ := hcd
        subst hcd
        split at h
        · rename_i a b ea eb
          unfold callM at h
          split at h
          · rename_i f hf
            obtain ⟨np, ns, bd, hfn, hl⟩ := cf_fn h
            obtain ⟨Mt, ⟨i, hi⟩, _, hsf⟩ := D.fc.mth c op.m f hf
            obtain ⟨p, dx, vs, rfl, hp, _⟩ := (hx.rd M R hu : RD B g1 H1 (.ins c fs) x)
            obtain ⟨q, dy, ws, rfl, hq, _⟩ := (hy.rd M R hv : RD B g1 H1 (.ins c gs) y)
            intro pins s v u I rx' ry'
            cases rx'
            cases ry'
            obtain ⟨od, J⟩ := inst_of I hp
            obtain ⟨od', J'⟩ := inst_of I hq
            obtain ⟨mF, hF⟩ := I.fr
            have hop : op.m = mAdd ∨ op.m = mMul := by
              cases op <;> first | exact .inl rfl | exact .inr rfl | cases how
            have hd : PySem.dunder op.py.info.2 = B.T.mnm op.m := by
              obtain ⟨_, s1, s2, _⟩ := D.fc.sp
              cases op <;> first | (cases how; done) | exact dun_add.trans s1.symm | exact dun_mul.trans s2.symm
            refine PySem.W.binop_K hF I.ok.mod.kin J J'.type (by rw [D.K]; exact hsf hop) (by rw [hd, D.K]; exact Mt.at_) (by rw [D.K]; exact Mt.fn) ?_
            refine wpAny_mono (call_ok D hfn M e (VRs.cons (hx.esc ea) (VRs.cons (hy.esc eb) VRs.nil)) hl h I (.cons rfl (.cons rfl .nil))) (fun w s' z => ?_) fun _ _ x => x
            obtain ⟨z', H', I', rz, qz⟩ := z
            exact SlX.cmpback rz ⟨z', H', I', rz, qz⟩
          · exact h.elim
        · exact h.elim
      · exact h.elim
    · obtain ⟨rv, e1, q⟩ := h.lift
      exact opS_of (binV_ok (env := env) (σ := σ) D.K M (hx.rd M R hu) (hy.rd M R hv) e1 fun g' z H' e2 M2 r2 => q g' z H' (e.trans e2) M2 (r2.back e))
  · exact h.elim
theorem asB_ok {r : Out RV} {Q : VK} {We : Value → Option Addr → Hp → Prop} (h : OkG B g H (relR B env σ H) (r.bind asB) Q We) :
    OkG B g H (relR B env σ H) r (fun z H' => ∃ k, z = .bl k ∧ Q (.bl k) H') We := by
  cases r with
  | stuck => exact h
  | exc x m' => exact h
  | ok rv m' =>
    intro g' y H' e M r
    unfold Out.bind asB at h
    dsimp only at h
    split at h
    · rename_i b
      cases r
      exact ⟨b, rfl, h g' (.bl b) H' e M rfl⟩
    · exact h.elim
theorem asNB_ok {r : Out RV} {Q : VK} {We : Value → Option Addr → Hp → Prop} (h : OkG B g H (relR B env σ H) (r.bind asNB) Q We) :
    OkG B g H (relR B env σ H) r (fun z H' => ∃ k, z = .bl k ∧ Q (.bl (!k)) H') We := by
  cases r with
  | stuck => exact h
  | exc x m' => exact h
  | ok rv m' =>
    intro g' y H' e M r
    unfold Out.bind asNB at h
    dsimp only at h
    split at h
    · rename_i b
      cases r
      exact ⟨b, rfl, h g' (.bl (!b)) H' e M rfl⟩
    · exact h.elim
/-- the right one's type comes not first -/
def TypB (B : Tb) (X : Cx) (σ : List (Option V)) (H1 : Hp) (c : Nat) (y : V) : Prop := ∀ (pins : List (Addr × Obj)) (s : Shared) (u : Value), Inv X pins σ H1 s → RelV y u → ∃ tb, PySem.W.Looks (model X.prog X.w) s.heap (typeOf u) tb ∧ PySem.W.notFirst X.K (B.cA c) tb = true
theorem typB_ins {c d : Nat} {i : Nat × Nat × Ss} {gs : List W} {ry : RV} {y : V} (D : Gd B sc X Wx n) (M : MR B g1 m1 H1) (R : ER B g1 env σ H1 H0) (hy : FR B g1 env σ ry y) (hv : rd env m1 ry = some (.ins d gs)) (hi : B.T.ini c = some i) (hin : ∃ i, B.T.ini d = some i) : TypB B X σ H1 c y := by
  obtain ⟨j, hj⟩ := hin
  obtain ⟨q, dy, ws, rfl, hq, _⟩ := (hy.rd M R hv : RD B g1 H1 (.ins d gs) y)
  intro pins s u I ry'
  cases ry'
  obtain ⟨od', J'⟩ := inst_of I hq
  exact ⟨.ref (B.cA d), J'.type, by rw [D.K]; exact D.fc.nf c d i j hi hj⟩
theorem subIn_of_kit {K : PySem.W.Frag} {C : Addr} {t : String} (h : PySem.W.kitOne K (.type t) (.ref C) = some false) : PySem.W.subIn K (.type t) (.ref C) = some false := by
  unfold PySem.W.kitOne at h
  split at h
  · cases h
  · unfold PySem.W.kitCls at h
    dsimp only at h
    split at h
    · exact h
    · cases h
theorem typB_plain {c : Nat} {i : Nat × Nat × Ss} {v : W} {ry : RV} {y : V} (D : Gd B sc X Wx n) (M : MR B g1 m1 H1) (R : ER B g1 env σ H1 H0) (hy : FR B g1 env σ ry y) (hv : rd env m1 ry = some v) (hp : plainW v = true) (hi : B.T.ini c = some i) : TypB B X σ H1 c y := by
  have hrd : RD B g1 H1 v y := hy.rd M R hv
  have ty := tyX_of D M hrd (fun d fs z => by subst z; cases hp) (fun d fs z => by subst z; cases hp)
  intro pins s u I ry'
  obtain ⟨P, kx, hP, _⟩ := kit_of I ry' ty
  refine ⟨_, kx.ty _ _ I.kIn hP, ?_⟩
  have hT := D.fc.kitT c (D.fc.ne c i hi).1
  have key : ∀ t ∈ (["NoneType", "int", "bool", "str", "list", "tuple", "dict"] : List String), PySem.W.notFirst X.K (B.cA c) (.type t) = true := fun t ht => by
    unfold PySem.W.notFirst
    rw [D.K, subIn_of_kit (hT t ht)]
    simp
  cases v with
  | ins _ _ => cases hp
  | exc _ _ => cases hp
  | cell _ => cases hp
  | _ => exact key _ (by simp)
/-- op of two instances by the left one's own method -/
theorem cmp_own {op : CmpOp} {mid : Nat} {rx ry : RV} {x y : V} {c : Nat} {fs : List W} {a b : W} {Q : VK} (D : Gd B sc X Wx n) (M : MR B g1 m1 H1) (R : ER B g1 env σ H1 H0) (e : Ev g H g1 H1) (hx : FR B g1 env σ rx x) (hy : FR B g1 env σ ry y)
    (hu : rd env m1 rx = some (.ins c fs)) (hT : ∀ i, B.T.ini c = some i → TypB B X σ H1 c y) (ea : esc rx = some a) (eb : esc ry = some b) (hop : ∀ a b, compareOp op a b = richCompare op a b) (hn : (cmpInfo op).2.1 = B.T.mnm mid)
    (h : OkG B g H (relR B env σ H) ((callM B.T (cfN B.T n) c mid [a, b] m1).bind asB) Q (fun c d H' => Wx c d σ H')) : opS X (compareOp op) σ x y H1 Q := by
  have h := asB_ok h
  unfold callM at h
  split at h
  · rename_i f hf
    obtain ⟨np, ns, bd, hfn, hl⟩ := cf_fn h
    obtain ⟨Mt, ⟨i, hi⟩, _, _⟩ := D.fc.mth c mid f hf
    obtain ⟨p, dx, vs, rfl, hp, _⟩ := (hx.rd M R hu : RD B g1 H1 (.ins c fs) x)
    intro pins s v u I rx' ry'
    cases rx'
    obtain ⟨od, J⟩ := inst_of I hp
    obtain ⟨tb, ht1, ht2⟩ := hT i hi pins s u I ry'
    obtain ⟨mF, hF⟩ := I.fr
    rw [hop]
    refine PySem.W.cmp_K (tb := tb) D.room.units0 hF I.ok.mod.kin J ht1 ht2 (by rw [hn, D.K]; exact Mt.at_) (by rw [D.K]; exact Mt.fn) ?_
    refine wpAny_mono (call_ok D hfn M e (VRs.cons (hx.esc ea) (VRs.cons (hy.esc eb) VRs.nil)) hl h I (.cons rfl (.cons ry' .nil))) (fun w s' z => ?_) fun _ _ x => x
    obtain ⟨z', H', I', rz, k, ek, qz⟩ := z
    subst ek
    exact SlX.cmpback rz ⟨.bl k, H', I', rz, qz⟩
  · exact h.elim
/-- x != y by x's own __eq__ -/
theorem ne_own {rx ry : RV} {x y : V} {c : Nat} {fs : List W} {a b : W} {Q : VK} (D : Gd B sc X Wx n) (M : MR B g1 m1 H1) (R : ER B g1 env σ H1 H0) (e : Ev g H g1 H1) (hx : FR B g1 env σ rx x) (hy : FR B g1 env σ ry y)
    (hu : rd env m1 rx = some (.ins c fs)) (hT : ∀ i, B.T.ini c = some i → TypB B X σ H1 c y) (ea : esc rx = some a) (eb : esc ry = some b)
    (h : OkG B g H (relR B env σ H) ((callM B.T (cfN B.T n) c mEq [a, b] m1).bind asNB) Q (fun c d H' => Wx c d σ H')) : opS X (compareOp .NotEq) σ x y H1 Q := by
  have h := asNB_ok h
  unfold callM at h
  split at h
  · rename_i f hf
    obtain ⟨np, ns, bd, hfn, hl⟩ := cf_fn h
    obtain ⟨Mt, ⟨i, hi⟩, _, _⟩ := D.fc.mth c mEq f hf
    obtain ⟨p, dx, vs, rfl, hp, _⟩ := (hx.rd M R hu : RD B g1 H1 (.ins c fs) x)
    intro pins s v u I rx' ry'
    cases rx'
    obtain ⟨od, J⟩ := inst_of I hp
    obtain ⟨tb, ht1, ht2⟩ := hT i hi pins s u I ry'
    obtain ⟨mF, hF⟩ := I.fr
    show wpAny _ _ (richCompare .NotEq (.ref p) u) _ _ _
    refine ne_K (tb := tb) D.un1 hF I.ok.mod.kin J ht1 ht2 (by rw [D.K]; exact (D.fc.ne c i hi).2) (by rw [D.K]; exact (D.fc.isi c i hi).2.1) (by have := Mt.at_; rw [D.fc.sp.1] at this; rw [D.K]; exact this) (by rw [D.K]; exact Mt.fn) ?_
    refine wpAny_mono (call_okA (A := X.A.in1) D (D.room.mono (by omega) : Room (2 * n + 3) X.A).in1 D.gd rfl hfn M e (VRs.cons (hx.esc ea) (VRs.cons (hy.esc eb) VRs.nil)) hl h I (.cons rfl (.cons ry' .nil))) (fun w s' z => ?_) fun _ _ x => x
    obtain ⟨z', H', I', rz, k, ek, qz⟩ := z
    subst ek
    cases rz
    exact ⟨k, rfl, .bl (!k), H', I', rfl, qz⟩
  · exact h.elim
theorem boolRV_ok {o : Option Bool} {rv : RV} (h : boolRV o = some rv) : ∃ b, o = some b ∧ rv = .val (.bl b) := by
  cases o with
  | none => cases h
  | some b => cases h; exact ⟨b, rfl, rfl⟩
theorem cmpG_ok {op : Cop} {rx ry : RV} {x y : V} {Q : VK} (D : Gd B sc X Wx n) (M : MR B g1 m1 H1) (R : ER B g1 env σ H1 H0) (e : Ev g H g1 H1) (hx : FR B g1 env σ rx x) (hy : FR B g1 env σ ry y)
    (h : OkG B g H (relR B env σ H) (cmpG B.T (cfN B.T n) env op rx ry m1) Q (fun c d H' => Wx c d σ H')) : opS X (compareOp op.py) σ x y H1 Q := by
  unfold cmpG at h
  split at h
  · rename_i u v hu hv
    split at h
    · rename_i c fs d gs
      split at h
      case isFalse => exact h.elim
      rename_i hini
      split at h
      · rename_i a b ea eb
        exact cmp_own (mid := mEq) D M R e hx hy hu (fun i hi => typB_ins D M R hy hv hi (Option.isSome_iff_exists.mp hini)) ea eb (fun _ _ => rfl) (by rw [D.fc.sp.1]; rfl) h
      · exact h.elim
    · rename_i c fs d gs
      split at h
      case isFalse => exact h.elim
      rename_i hini
      split at h
      · rename_i a b ea eb
        exact cmp_own (mid := mLe) D M R e hx hy hu (fun i hi => typB_ins D M R hy hv hi (Option.isSome_iff_exists.mp hini)) ea eb (fun _ _ => rfl) (by rw [D.fc.sp.2.2.2.1]; rfl) h
      · exact h.elim
    · rename_i c fs d gs
      split at h
      case isFalse => exact h.elim
      rename_i hini
      split at h
      · rename_i a b ea eb
        exact ne_own D M R e hx hy hu (fun i hi => typB_ins D M R hy hv hi (Option.isSome_iff_exists.mp hini)) ea eb h
      · exact h.elim
    · rename_i c fs
      split at h
      · rename_i a b ea eb
        have h := asB_ok h
        unfold callM at h
        split at h
        · rename_i f hf
          obtain ⟨np, ns, bd, hfn, hl⟩ := cf_fn h
          obtain ⟨Mt, ⟨i, hi⟩, _, _⟩ := D.fc.mth c mIn f hf
          obtain ⟨q, dy, ws, rfl, hq, _⟩ := (hy.rd M R hv : RD B g1 H1 (.ins c fs) y)
          intro pins s v u I rx' ry'
          cases ry'
          obtain ⟨od', J'⟩ := inst_of I hq
          obtain ⟨mF, hF⟩ := I.fr
          refine PySem.W.in_K hF I.ok.mod.kin J' (by rw [D.K, ← D.fc.sp.2.2.2.2.1]; exact Mt.at_) (by rw [D.K]; exact Mt.fn) ?_
          refine wpAny_mono (call_ok D hfn M e (VRs.cons (hy.esc eb) (VRs.cons (hx.esc ea) VRs.nil)) hl h I (.cons rfl (.cons rx' .nil))) (fun w s' z => ?_) fun _ _ x => x
          obtain ⟨z', H', I', rz, k, ek, qz⟩ := z
          subst ek
          cases rz
          exact wpAny_truthy_bool ⟨.bl k, H', I', rfl, qz⟩
        · exact h.elim
      · exact h.elim
    · rename_i c fs _
      split at h
      case isFalse => exact h.elim
      rename_i hpl
      split at h
      · rename_i a b ea eb
        exact cmp_own (mid := mEq) D M R e hx hy hu (fun i hi => typB_plain D M R hy hv hpl hi) ea eb (fun _ _ => rfl) (by rw [D.fc.sp.1]; rfl) h
      · exact h.elim
    · rename_i c fs _
      split at h
      case isFalse => exact h.elim
      rename_i hpl
      split at h
      · rename_i a b ea eb
        exact ne_own D M R e hx hy hu (fun i hi => typB_plain D M R hy hv hpl hi) ea eb h
      · exact h.elim
    · obtain ⟨rv, e1, q⟩ := h.lift
      obtain ⟨b, e2, rfl⟩ := boolRV_ok e1
      exact opS_of (cmpV_ok D.K D.un M (hx.rd M R hu) (hy.rd M R hv) e2 (q g1 _ H1 e M rfl))
  · exact h.elim
end
end Mi

set_option Elab.async false
set_option linter.all false
set_option maxRecDepth 100000
set_option maxHeartbeats 1000000
/-! Mi14: one form of expression after another. -/
namespace Mi
open PySem PySem.Spec L2
open PyProof.Rows (Fr News envOfC)

section
variable {B : Tb} {X : Cx} {Wx : WX} {n : Nat} {sc : Sc} {pos : Pos} {e ea eb ec : Expr} {a b c : E} {es : Es} {xs : List Expr}
abbrev PEm (B : Tb) (X : Cx) (Wx : WX) (n : Nat) (e : Expr) (a : E) : Prop := PE X e (tE B (cfN B.T n) Wx a)
abbrev PTm (B : Tb) (X : Cx) (Wx : WX) (n : Nat) (e : Expr) (a : E) : Prop := PT X e (tT B (cfN B.T n) Wx a)
abbrev PAm (B : Tb) (X : Cx) (Wx : WX) (n : Nat) (xs : List Expr) (es : Es) : Prop := PA X xs (tWs B (cfN B.T n) Wx es)

theorem e_var {i : Nat} {x : Str} (D : Gd B sc X Wx n) (hN : sc.N[i]? = some x) (hv : visB sc.scope x = true) (hd : dbg x = true) : PEm B X Wx n (.Name x pos) (.var i) := by
  have h1 : X.N[i]? = some x := by rw [D.N]; exact hN
  have h2 : Vis X.env.scope x := by rw [D.sco]; exact visB_ok hv
  refine PE.mono (pe_var h1 h2 (dbg_ok hd).1 (dbg_ok hd).2) fun σ H Q h => ?_
  obtain ⟨g, env, m, H0, M, R, h⟩ := h
  simp only [evE] at h
  split at h
  · rename_i w hw
    obtain ⟨v, hv, rv⟩ := R.val i w hw
    exact ⟨v, hv, h g v H Ev.refl M rv⟩
  · rename_i ob hw
    obtain ⟨p, hp, _⟩ := R.own i ob hw
    exact ⟨.ref p, hp, h g (.ref p) H Ev.refl M ⟨hp, ob, hw⟩⟩
  · exact h.elim
theorem e_int {z : Int} {j : Nat} : PEm B X Wx n (.Constant (.int z) j pos) (.int z) := PE.mono pe_int fun σ H Q h => by
  obtain ⟨g, env, m, H0, M, R, h⟩ := h
  simp only [evE] at h
  exact h g _ H Ev.refl M rfl
theorem e_str {z : Str} {j : Nat} : PEm B X Wx n (.Constant (.str z) j pos) (.str z) := PE.mono pe_str fun σ H Q h => by
  obtain ⟨g, env, m, H0, M, R, h⟩ := h
  simp only [evE] at h
  exact h g _ H Ev.refl M rfl
theorem e_bl {z : Bool} {j : Nat} : PEm B X Wx n (.Constant (.bool z) j pos) (.bl z) := PE.mono pe_bl fun σ H Q h => by
  obtain ⟨g, env, m, H0, M, R, h⟩ := h
  simp only [evE] at h
  exact h g _ H Ev.refl M rfl
theorem e_non {j : Nat} : PEm B X Wx n (.Constant .none j pos) .non := PE.mono pe_non fun σ H Q h => by
  obtain ⟨g, env, m, H0, M, R, h⟩ := h
  simp only [evE] at h
  exact h g _ H Ev.refl M rfl
theorem e_glob {k : Nat} {x : Str} (D : Gd B sc X Wx n) (hx : B.T.gnm k = x) (h0 : x ≠ Str.empty) (hg : glB sc.scope x = true) : PEm B X Wx n (.Name x pos) (.glob k) := by
  subst hx
  obtain ⟨hd, v, u, hm, r, hv⟩ := D.fc.glob k h0
  refine PE.mono (pe_glob (glB_ok (by rw [D.sco]; exact hg)) (by rw [D.mg]; exact hm) r hd) fun σ H Q h => ?_
  obtain ⟨g, env, m, H0, M, R, h⟩ := h
  simp only [evE] at h
  exact h g v H Ev.refl M (hv _ _)
/-- in, not in, of a constant that is a dict with text keys -/
theorem e_kin {neg : Bool} {k : Nat} {x : Str} {pos' : Pos} (D : Gd B sc X Wx n) (ha : PEm B X Wx n ea a) (hx : B.T.dnm k = x) (h0 : x ≠ Str.empty) (hg : glB sc.scope x = true) :
    PEm B X Wx n (.Compare ea [if neg then .NotIn else .In] [.Name x pos'] pos) (.kin neg a k) := by
  subst hx
  obtain ⟨hd, d, es, i, hm, K, hr⟩ := D.fc.dk k h0
  rw [← D.K, ← D.w] at K
  refine PE.mono (pe_cmpS ha (pe_glob (u := .ref d) (v := .ref d) (glB_ok (by rw [D.sco]; exact hg)) (by rw [D.mg]; exact hm) rfl hd) (by cases neg <;> rfl)) fun σ H Q h => ?_
  obtain ⟨g, env, m, H0, M, R, h⟩ := h
  simp only [evE] at h
  refine tE_bindF M R Ev.refl h fun rx m1 g1 x H1 he e1 e1' M1 R1 fx h1 => ?_
  split at h1
  · rename_i s
    cases fx
    obtain ⟨r, hr1, hr2⟩ := hr s
    rw [← D.K] at hr1
    have q := h1 g1 _ H1 e1 M1 rfl
    rw [← hr2] at q
    cases neg with
    | false => exact fun pins s' v u I rx ry => op_in_kd K pins s' σ H1 _ _ v u Q I rx ry ⟨s, r, rfl, rfl, hr1, q⟩
    | true => exact fun pins s' v u I rx ry => op_notIn_kd K pins s' σ H1 _ _ v u Q I rx ry ⟨s, r, rfl, rfl, hr1, q⟩
  · exact h1.elim
/-- the reading of an expression: its own outcome -/
theorem e_bin {op : Bop} (D : Gd B sc X Wx n) (ha : PEm B X Wx n ea a) (hb : PEm B X Wx n eb b) : PEm B X Wx n (.BinOp ea op.py eb pos) (.bin op a b) := by
  refine PE.mono (pe_opS ha hb) fun σ H Q h => ?_
  obtain ⟨g, env, m, H0, M, R, h⟩ := h
  simp only [evE] at h
  refine tE_bindF M R Ev.refl h fun rx m1 g1 x H1 he e1 e1' M1 R1 fx h1 => ?_
  refine tE_bindF M1 R1 e1 h1 fun ry m2 g2 y H2 he2 e2 e2' M2 R2 fy h2 => ?_
  exact binG_ok D M2 R2 e2 (fx.ev e2') fy h2
theorem e_neg (ha : PEm B X Wx n ea a) : PEm B X Wx n (.UnaryOp .USub ea pos) (.neg a) := by
  refine PE.mono (pe_un un_neg ha) fun σ H Q h => ?_
  obtain ⟨g, env, m, H0, M, R, h⟩ := h
  simp only [evE] at h
  refine tE_bindF M R Ev.refl h fun rx m1 g1 x H1 he e1 e1' M1 R1 fx h1 => ?_
  split at h1
  · cases fx
    exact ⟨_, rfl, h1 g1 _ H1 e1 M1 rfl⟩
  · exact h1.elim
theorem e_cmp {op : Cop} (D : Gd B sc X Wx n) (ha : PEm B X Wx n ea a) (hb : PEm B X Wx n eb b) (hs : noSet eb = true) : PEm B X Wx n (.Compare ea [op.py] [eb] pos) (.cmp op a b) := by
  refine PE.mono (pe_cmpS ha hb (behind_ok hs)) fun σ H Q h => ?_
  obtain ⟨g, env, m, H0, M, R, h⟩ := h
  simp only [evE] at h
  refine tE_bindF M R Ev.refl h fun rx m1 g1 x H1 he e1 e1' M1 R1 fx h1 => ?_
  refine tE_bindF M1 R1 e1 h1 fun ry m2 g2 y H2 he2 e2 e2' M2 R2 fy h2 => ?_
  exact cmpG_ok D M2 R2 e2 (fx.ev e2') fy h2
/-- a test's outcome, by the expression's -/
theorem evT_ok {B : Tb} {cf : CF} {g : Gh} {H : Hp} {m : Mem} {env : En} {σ : L2.St} {a : E} {Q : Bool → Hp → Prop} {We : Value → Option Addr → Hp → Prop} (h : OkG B g H relB (evT B.T cf env a m) Q We) :
    OkG B g H (relR B env σ H) (evE B.T cf env a m) (fun x H' => ∃ k, x = .bl k ∧ Q k H') We := by
  unfold evT at h
  cases q : evE B.T cf env a m with
  | stuck => rw [q] at h; exact h
  | exc x m' => rw [q] at h; exact h
  | ok rv m' =>
    rw [q] at h
    intro g' y H' e M r
    unfold Out.bind at h
    dsimp only at h
    split at h
    · rename_i k
      cases r
      exact ⟨k, rfl, h g' k H' e M rfl⟩
    · exact h.elim
theorem tT_tE {B : Tb} {cf : CF} {Wx : WX} {σ : L2.St} {H : Hp} {a : E} {Q : Bool → Hp → Prop} (h : tT B cf Wx a σ H Q) : tE B cf Wx a σ H (fun x H' => ∃ k, x = .bl k ∧ Q k H') := by
  obtain ⟨g, env, m, H0, M, R, h⟩ := h
  exact ⟨g, env, m, H0, M, R, evT_ok h⟩
theorem t_plain (ha : PEm B X Wx n e a) (hp : plainT e = true) : PTm B X Wx n e a := PT.mono (pt_val ha (plainT_ok hp)) fun σ H Q h => tT_tE h
theorem t_cmp {op : Cop} (D : Gd B sc X Wx n) (ha : PEm B X Wx n ea a) (hb : PEm B X Wx n eb b) (hs : noSet eb = true) : PTm B X Wx n (.Compare ea [op.py] [eb] pos) (.cmp op a b) := by
  refine PT.mono (pt_cmpS ha hb (behind_ok hs)) fun σ H Q h => ?_
  obtain ⟨g, env, m, H0, M, R, h⟩ := tT_tE h
  simp only [evE] at h
  refine tE_bindF M R Ev.refl h fun rx m1 g1 x H1 he e1 e1' M1 R1 fx h1 => ?_
  refine tE_bindF M1 R1 e1 h1 fun ry m2 g2 y H2 he2 e2 e2' M2 R2 fy h2 => ?_
  exact cmpG_ok D M2 R2 e2 (fx.ev e2') fy h2
theorem t_kin {neg : Bool} {k : Nat} {x : Str} {pos' : Pos} (D : Gd B sc X Wx n) (ha : PEm B X Wx n ea a) (hx : B.T.dnm k = x) (h0 : x ≠ Str.empty) (hg : glB sc.scope x = true) :
    PTm B X Wx n (.Compare ea [if neg then .NotIn else .In] [.Name x pos'] pos) (.kin neg a k) := by
  subst hx
  obtain ⟨hd, d, es, i, hm, K, hr⟩ := D.fc.dk k h0
  rw [← D.K, ← D.w] at K
  refine PT.mono (pt_cmpS ha (pe_glob (u := .ref d) (v := .ref d) (glB_ok (by rw [D.sco]; exact hg)) (by rw [D.mg]; exact hm) rfl hd) (by cases neg <;> rfl)) fun σ H Q h => ?_
  obtain ⟨g, env, m, H0, M, R, h⟩ := tT_tE h
  simp only [evE] at h
  refine tE_bindF M R Ev.refl h fun rx m1 g1 x H1 he e1 e1' M1 R1 fx h1 => ?_
  split at h1
  · rename_i s
    cases fx
    obtain ⟨r, hr1, hr2⟩ := hr s
    rw [← D.K] at hr1
    have q := h1 g1 _ H1 e1 M1 rfl
    rw [← hr2] at q
    cases neg with
    | false => exact fun pins s' v u I rx ry => op_in_kd K pins s' σ H1 _ _ v u _ I rx ry ⟨s, r, rfl, rfl, hr1, q⟩
    | true => exact fun pins s' v u I rx ry => op_notIn_kd K pins s' σ H1 _ _ v u _ I rx ry ⟨s, r, rfl, rfl, hr1, q⟩
  · exact h1.elim
/-- a chain's second link -/
theorem chain_red {o1 o2 : Cop} {σ : L2.St} {H : Hp} {Q : VK} (D : Gd B sc X Wx n) (h : tE B (cfN B.T n) Wx (.chain o1 o2 a b c) σ H Q) :
    tChainS X o1.py o2.py (tE B (cfN B.T n) Wx a) (tE B (cfN B.T n) Wx b) (tE B (cfN B.T n) Wx c) σ H Q := by
  obtain ⟨g, env, m, H0, M, R, h⟩ := h
  simp only [evE] at h
  refine tE_bindF M R Ev.refl h fun rx m1 g1 x H1 he e1 e1' M1 R1 fx h1 => ?_
  refine tE_bindF M1 R1 e1 h1 fun ry m2 g2 y H2 he2 e2 e2' M2 R2 fy h2 => ?_
  refine cmpG_ok (env := env) D M2 R2 Ev.refl (fx.ev e2') fy (OkG.bind e2 h2 fun rv m3 g3 z H3 _ e3 e3' M3 r3 h3 => ?_)
  have R3 : ER B g3 env σ H3 H0 := R2.ev e3'
  split at h3
  · cases r3
    refine ⟨true, rfl, ?_⟩
    rw [if_pos rfl]
    refine tE_bindF M3 R3 e3 h3 fun rz m4 g4 w H4 _ e4 e4' M4 R4 fz h4 => ?_
    exact cmpG_ok D M4 R4 e4 (fy.ev (e3'.trans e4')) fz h4
  · cases r3
    exact ⟨false, rfl, by rw [if_neg Bool.false_ne_true]; exact h3 g3 _ H3 e3 M3 rfl⟩
  · exact h3.elim
theorem marks_ok {o1 o2 : CmpOp} (hs : noSet ec = true) : lastMarks [o1, o2] [eb, ec] = false := by
  show behindInMarks o2 ec = false
  exact behind_ok hs
theorem e_chain {o1 o2 : Cop} (D : Gd B sc X Wx n) (ha : PEm B X Wx n ea a) (hb : PEm B X Wx n eb b) (hc : PEm B X Wx n ec c) (hs : noSet ec = true) : PEm B X Wx n (.Compare ea [o1.py, o2.py] [eb, ec] pos) (.chain o1 o2 a b c) :=
  PE.mono (pe_chainS ha hb hc (marks_ok hs)) fun σ H Q h => chain_red D h
theorem t_chain {o1 o2 : Cop} (D : Gd B sc X Wx n) (ha : PEm B X Wx n ea a) (hb : PEm B X Wx n eb b) (hc : PEm B X Wx n ec c) (hs : noSet ec = true) : PTm B X Wx n (.Compare ea [o1.py, o2.py] [eb, ec] pos) (.chain o1 o2 a b c) :=
  PT.mono (pt_chainS ha hb hc (marks_ok hs)) fun σ H Q h => chain_red D (tT_tE h)
/-! ### not, if else -/
theorem not_red {σ : L2.St} {H : Hp} {Q : Bool → Hp → Prop} (h : tT B (cfN B.T n) Wx (.not a) σ H Q) : tT B (cfN B.T n) Wx a σ H fun k H' => Q (!k) H' := by
  obtain ⟨g, env, m, H0, M, R, h⟩ := h
  refine ⟨g, env, m, H0, M, R, ?_⟩
  unfold evT at h ⊢
  simp only [evE] at h
  cases q : evE B.T (cfN B.T n) env a m with
  | stuck => rw [q] at h; exact h
  | exc x m' => rw [q] at h; exact h
  | ok rv m' =>
    rw [q] at h
    rcases rv with w | o | i
    · cases w with
      | bl k =>
        intro g' y H' e M' r
        cases r
        exact h g' (!k) H' e M' rfl
      | _ => exact (h : False).elim
    · exact (h : False).elim
    · exact (h : False).elim
theorem tE_tT {B : Tb} {cf : CF} {Wx : WX} {σ : L2.St} {H : Hp} {a : E} {Q : VK} (hb : ∀ env m rv m', evE B.T cf env a m = .ok rv m' → ∃ k, rv = .val (.bl k)) (h : tE B cf Wx a σ H Q) : tT B cf Wx a σ H fun k H' => Q (.bl k) H' := by
  obtain ⟨g, env, m, H0, M, R, h⟩ := h
  refine ⟨g, env, m, H0, M, R, ?_⟩
  unfold evT
  cases q : evE B.T cf env a m with
  | stuck => rw [q] at h; exact h
  | exc x m' => rw [q] at h; exact h
  | ok rv m' =>
    rw [q] at h
    obtain ⟨k, rfl⟩ := hb _ _ _ _ q
    intro g' y H' e M' r
    cases r
    exact h g' _ H' e M' rfl
theorem t_not (ha : PTm B X Wx n ea a) : PTm B X Wx n (.UnaryOp .Not ea pos) (.not a) := PT.mono (pt_not ha) fun σ H Q h => not_red h
theorem e_not (ha : PEm B X Wx n ea a) : PEm B X Wx n (.UnaryOp .Not ea pos) (.not a) := by
  refine PE.mono (pe_not ha) fun σ H Q h => ?_
  obtain ⟨g, env, m, H0, M, R, h⟩ := h
  simp only [evE] at h
  refine tE_bindF M R Ev.refl h fun rx m1 g1 x H1 he e1 e1' M1 R1 fx h1 => ?_
  split at h1
  · cases fx
    exact ⟨_, rfl, h1 g1 _ H1 e1 M1 rfl⟩
  · exact h1.elim
theorem Out.bind_ok {α : Type} (r : Out α) : r.bind Out.ok = r := by cases r <;> rfl
/-- what the two ways share -/
theorem ite_red {γ δ : Type} {rel : Gh → Hp → γ → δ → Prop} {f : RV → Mem → Out γ} {σ : L2.St} {H : Hp} {g : Gh} {env : En} {m : Mem} {H0 : Hp} {Q : δ → Hp → Prop} (M : MR B g m H) (R : ER B g env σ H H0)
    (h : OkG B g H rel ((evE B.T (cfN B.T n) env (.ite c a b) m).bind f) Q (fun c d H' => Wx c d σ H')) :
    tT B (cfN B.T n) Wx c σ H fun k H1 => ∃ g1 m1, Ev g H g1 H1 ∧ MR B g1 m1 H1 ∧ ER B g1 env σ H1 H0 ∧ OkG B g H rel ((evE B.T (cfN B.T n) env (if k = true then a else b) m1).bind f) Q (fun c d H' => Wx c d σ H') := by
  refine ⟨g, env, m, H0, M, R, ?_⟩
  unfold evT
  simp only [evE] at h
  cases q : evE B.T (cfN B.T n) env c m with
  | stuck => rw [q] at h; exact h
  | exc x m' => rw [q] at h; exact h
  | ok rv m' =>
    rw [q] at h
    rcases rv with w | o | i
    · cases w with
      | bl k =>
        intro g' y H' e M' r
        cases r
        cases k with
        | true => exact ⟨g', m', e, M', R.ev e, h⟩
        | false => exact ⟨g', m', e, M', R.ev e, h⟩
      | _ => exact (h : False).elim
    · exact (h : False).elim
    · exact (h : False).elim
theorem OkG.re {α β : Type} {g gc : Gh} {H Hc : Hp} {rel rel' : Gh → Hp → α → β → Prop} {r : Out α} {Q : β → Hp → Prop} {We : Value → Option Addr → Hp → Prop}
    (h : OkG B g H rel r Q We) (e : Ev g H gc Hc) (k : ∀ g' H' x y, rel' g' H' x y → rel g' H' x y) : OkG B gc Hc rel' r Q We := h.to e k
theorem e_ite (hc : PTm B X Wx n ec c) (ha : PEm B X Wx n ea a) (hb : PEm B X Wx n eb b) : PEm B X Wx n (.IfExp ec ea eb pos) (.ite c a b) := by
  refine PE.mono (pe_ifExp hc ha hb) fun σ H Q h => ?_
  obtain ⟨g, env, m, H0, M, R, h⟩ := h
  rw [← Out.bind_ok (evE B.T (cfN B.T n) env (.ite c a b) m)] at h
  obtain ⟨g', env', m', H0', M', R', h'⟩ := ite_red M R h
  refine ⟨g', env', m', H0', M', R', OkG.mono h' (fun _ _ _ _ z => z) fun k H1 q => ?_⟩
  obtain ⟨g1, m1, e1, M1, R1, h1⟩ := q
  rw [Out.bind_ok] at h1
  cases k with
  | true =>
    rw [if_pos rfl] at h1 ⊢
    exact ⟨g1, env, m1, H0, M1, R1, h1.to e1 fun g' H' x y z => RR.back e1 z⟩
  | false =>
    rw [if_neg Bool.false_ne_true] at h1 ⊢
    exact ⟨g1, env, m1, H0, M1, R1, h1.to e1 fun g' H' x y z => RR.back e1 z⟩
theorem pt_ifExp {tc ta tb : TT} (hc : PT X ec tc) (ha : PT X ea ta) (hb : PT X eb tb) : PT X (.IfExp ec ea eb pos) (fun σ H Q => tc σ H fun k H1 => if k = true then ta σ H1 Q else tb σ H1 Q) := by
  refine ⟨fun pins s σ H Q I h => ?_⟩
  show wpAny _ _ (PySem.isTrue (.IfExp ec ea eb pos) X.env _) _ _ _
  unfold PySem.isTrue
  refine wpAny_bind (thn (hc.run pins s σ H _ I h) fun d s1 ⟨H1, I1, q1⟩ => ?_)
  cases d with
  | true => exact ha.run pins s1 σ H1 Q I1 q1
  | false => exact hb.run pins s1 σ H1 Q I1 q1
theorem t_ite (hc : PTm B X Wx n ec c) (ha : PTm B X Wx n ea a) (hb : PTm B X Wx n eb b) : PTm B X Wx n (.IfExp ec ea eb pos) (.ite c a b) := by
  refine PT.mono (pt_ifExp hc ha hb) fun σ H Q h => ?_
  obtain ⟨g, env, m, H0, M, R, h⟩ := h
  obtain ⟨g', env', m', H0', M', R', h'⟩ := ite_red M R h
  refine ⟨g', env', m', H0', M', R', OkG.mono h' (fun _ _ _ _ z => z) fun k H1 q => ?_⟩
  obtain ⟨g1, m1, e1, M1, R1, h1⟩ := q
  cases k with
  | true => rw [if_pos rfl] at h1 ⊢; exact ⟨g1, env, m1, H0, M1, R1, h1.to e1 fun g' H' x y z => z⟩
  | false => rw [if_neg Bool.false_ne_true] at h1 ⊢; exact ⟨g1, env, m1, H0, M1, R1, h1.to e1 fun g' H' x y z => z⟩

/-! ### and, or -/
/-- the rest of an and, an or -/
def tBv (B : Tb) (cf : CF) (Wx : WX) (k : Bool) (es : Es) : TE := fun σ H Q => ∃ g env m H0, MR B g m H ∧ ER B g env σ H H0 ∧ OkG B g H (relR B env σ H) (evB B.T cf env k es m) Q (fun c d H' => Wx c d σ H')
def evBT (T : Pg) (cf : CF) (env : En) (k : Bool) (es : Es) (m : Mem) : Out Bool := (evB T cf env k es m).bind fun r m1 => match r with | .val (.bl b) => .ok b m1 | _ => .stuck
def tBt (B : Tb) (cf : CF) (Wx : WX) (k : Bool) (es : Es) : TT := fun σ H Q => ∃ g env m H0, MR B g m H ∧ ER B g env σ H H0 ∧ OkG B g H relB (evBT B.T cf env k es m) Q (fun c d H' => Wx c d σ H')
def bop : Bool → BoolOp | true => .And | false => .Or
theorem bv_one {k : Bool} (ha : PEm B X Wx n ea a) : PE X (.BoolOp (bop k) [ea] pos) (tBv B (cfN B.T n) Wx k (.cons a .nil)) := by
  refine PE.mono (pe_one ha) fun σ H Q h => ?_
  obtain ⟨g, env, m, H0, M, R, h⟩ := h
  simp only [evB, Es.isNil] at h
  refine ⟨g, env, m, H0, M, R, ?_⟩
  cases q : evE B.T (cfN B.T n) env a m with
  | stuck => rw [q] at h; exact h
  | exc x m' => rw [q] at h; exact h
  | ok rv m' => rw [q] at h; exact h
theorem bv_cons {k : Bool} {e2 : Expr} {rest : List Expr} (ha : PEm B X Wx n ea a) (hr : PE X (.BoolOp (bop k) (e2 :: rest) pos) (tBv B (cfN B.T n) Wx k es)) (hn : es.isNil = false) :
    PE X (.BoolOp (bop k) (ea :: e2 :: rest) pos) (tBv B (cfN B.T n) Wx k (.cons a es)) := by
  have red : ∀ σ H Q, tBv B (cfN B.T n) Wx k (.cons a es) σ H Q → tE B (cfN B.T n) Wx a σ H fun x H1 => ∃ b, x = .bl b ∧ if b = k then tBv B (cfN B.T n) Wx k es σ H1 Q else Q (.bl b) H1 := fun σ H Q h => by
    obtain ⟨g, env, m, H0, M, R, h⟩ := h
    simp only [evB, hn] at h
    refine tE_bindF M R Ev.refl h fun rx m1 g1 x H1 he e1 e1' M1 R1 fx h1 => ?_
    split at h1
    · rename_i b
      cases fx
      refine ⟨b, rfl, ?_⟩
      split at h1
      · rename_i hb
        rw [if_pos hb]
        exact ⟨g1, env, m1, H0, M1, R1, h1.to e1 fun g' H' x y z => RR.back e1 z⟩
      · rename_i hb
        rw [if_neg hb]
        exact h1 g1 _ H1 e1 M1 rfl
    · exact h1.elim
  cases k with
  | true =>
    refine PE.mono (pe_and ha hr) fun σ H Q h => ?_
    obtain ⟨g, env, m, H0, M, R, h⟩ := red σ H Q h
    refine ⟨g, env, m, H0, M, R, OkG.mono h (fun _ _ _ _ z => z) fun y H' q => ?_⟩
    obtain ⟨b, rfl, q⟩ := q
    refine ⟨b, rfl, ?_⟩
    cases b with
    | true => exact q
    | false => exact q
  | false =>
    refine PE.mono (pe_or ha hr) fun σ H Q h => ?_
    obtain ⟨g, env, m, H0, M, R, h⟩ := red σ H Q h
    refine ⟨g, env, m, H0, M, R, OkG.mono h (fun _ _ _ _ z => z) fun y H' q => ?_⟩
    obtain ⟨b, rfl, q⟩ := q
    refine ⟨b, rfl, ?_⟩
    cases b with
    | true => exact q
    | false => exact q
theorem bt_one {k : Bool} (ha : PTm B X Wx n ea a) : PW X (.BoolOp (bop k) [ea] pos) (tBt B (cfN B.T n) Wx k (.cons a .nil)) := by
  have red : ∀ σ H Q, tBt B (cfN B.T n) Wx k (.cons a .nil) σ H Q → tT B (cfN B.T n) Wx a σ H Q := fun σ H Q h => by
    obtain ⟨g, env, m, H0, M, R, h⟩ := h
    refine ⟨g, env, m, H0, M, R, ?_⟩
    unfold evBT at h
    unfold evT
    simp only [evB, Es.isNil] at h
    cases q : evE B.T (cfN B.T n) env a m with
    | stuck => rw [q] at h; exact h
    | exc x m' => rw [q] at h; exact h
    | ok rv m' => rw [q] at h; exact h
  cases k with
  | true => exact PW.mono (pw_and1 ha) red
  | false => exact PW.mono (pw_or1 ha) red
theorem bt_cons {k : Bool} {e2 : Expr} {rest : List Expr} (ha : PTm B X Wx n ea a) (hr : PW X (.BoolOp (bop k) (e2 :: rest) pos) (tBt B (cfN B.T n) Wx k es)) (hn : es.isNil = false) :
    PW X (.BoolOp (bop k) (ea :: e2 :: rest) pos) (tBt B (cfN B.T n) Wx k (.cons a es)) := by
  have red : ∀ σ H Q, tBt B (cfN B.T n) Wx k (.cons a es) σ H Q → tT B (cfN B.T n) Wx a σ H fun b H1 => if b = k then tBt B (cfN B.T n) Wx k es σ H1 Q else Q b H1 := fun σ H Q h => by
    obtain ⟨g, env, m, H0, M, R, h⟩ := h
    refine ⟨g, env, m, H0, M, R, ?_⟩
    unfold evBT at h
    unfold evT
    simp only [evB, hn] at h
    cases q : evE B.T (cfN B.T n) env a m with
    | stuck => rw [q] at h; exact h
    | exc x m' => rw [q] at h; exact h
    | ok rv m' =>
      rw [q] at h
      rcases rv with w | o | i
      · cases w with
        | bl b =>
          intro g' y H' e M' r
          cases r
          by_cases hb : b = k
          · rw [if_pos hb]
            simp only [Out.bind, if_pos hb] at h
            exact ⟨g', env, m', H0, M', R.ev e, OkG.to (rel := relB) e h fun g' H' x y z => z⟩
          · rw [if_neg hb]
            simp only [Out.bind, if_neg hb] at h
            exact h g' b H' e M' rfl
        | _ => exact (h : False).elim
      · exact (h : False).elim
      · exact (h : False).elim
  cases k with
  | true =>
    refine PW.mono (pw_and ha hr) fun σ H Q h => ?_
    obtain ⟨g, env, m, H0, M, R, h⟩ := red σ H Q h
    refine ⟨g, env, m, H0, M, R, OkG.mono h (fun _ _ _ _ z => z) fun y H' q => ?_⟩
    cases y with
    | true => exact q
    | false => exact q
  | false =>
    refine PW.mono (pw_or ha hr) fun σ H Q h => ?_
    obtain ⟨g, env, m, H0, M, R, h⟩ := red σ H Q h
    refine ⟨g, env, m, H0, M, R, OkG.mono h (fun _ _ _ _ z => z) fun y H' q => ?_⟩
    cases y with
    | true => exact q
    | false => exact q
theorem e_bool {k : Bool} (h : PE X (.BoolOp (bop k) xs pos) (tBv B (cfN B.T n) Wx k es)) : PEm B X Wx n (.BoolOp (bop k) xs pos) (.bool k es) := PE.mono h fun σ H Q h => by
  obtain ⟨g, env, m, H0, M, R, h⟩ := h
  simp only [evE] at h
  exact ⟨g, env, m, H0, M, R, h⟩
theorem t_bool {k : Bool} (h : PW X (.BoolOp (bop k) xs pos) (tBt B (cfN B.T n) Wx k es)) : PTm B X Wx n (.BoolOp (bop k) xs pos) (.bool k es) := PT.mono h.pt fun σ H Q h => by
  obtain ⟨g, env, m, H0, M, R, h⟩ := h
  unfold evT at h
  simp only [evE] at h
  exact ⟨g, env, m, H0, M, R, h⟩
end
end Mi

set_option Elab.async false
set_option linter.all false
set_option maxRecDepth 100000
set_option maxHeartbeats 1000000
/-! Mi15: displays, items, slices, attributes, calls. -/
namespace Mi
open PySem PySem.Spec L2
open PyProof.Rows (Fr News envOfC)

section
variable {B : Tb} {X : Cx} {Wx : WX} {n : Nat} {sc : Sc} {pos : Pos} {e ea eb ec : Expr} {a b c : E} {es : Es} {xs : List Expr}
theorem a_nil : PAm B X Wx n [] .nil := PA.mono pa_nil fun σ H Q h => by
  obtain ⟨g, env, m, H0, M, R, h⟩ := h
  simp only [evWs] at h
  exact h g [] H Ev.refl M VRs.nil
theorem a_cons (ha : PEm B X Wx n ea a) (hr : PAm B X Wx n xs es) (hs : ns ea = true) : PAm B X Wx n (ea :: xs) (.cons a es) := PA.mono (pa_cons ha hr (star_cons hs)) fun σ H Q h => by
  obtain ⟨g, env, m, H0, M, R, h⟩ := h
  simp only [evWs] at h
  refine tE_bindF M R Ev.refl h fun rx m1 g1 x H1 he e1 e1' M1 R1 fx h1 => ?_
  split at h1
  · rename_i w hw
    refine tWs_bind M1 R1 e1 h1 fun ws m2 g2 vs H2 he2 e2 e2' M2 R2 rv h2 => ?_
    exact h2 g2 _ H2 e2 M2 (VRs.cons (e2'.vr (fx.esc hw)) rv)
  · exact h1.elim
theorem e_tup {k : Nat} (ha : PAm B X Wx n xs es) : PEm B X Wx n (.Tuple xs k pos) (.tup es) := PE.mono (pe_tup ha) fun σ H Q h => by
  obtain ⟨g, env, m, H0, M, R, h⟩ := h
  simp only [evE] at h
  refine tWs_bind M R Ev.refl h fun ws m1 g1 vs H1 he e1 e1' M1 R1 rv h1 => ?_
  split at h1
  · rename_i hz
    refine ⟨by rw [← rv.length]; exact hz, fun p hp => ?_⟩
    refine h1 _ _ _ (e1.trans (Ev.pure (o := .tup vs) M1 hp)) (MR.pure M1 hp) ?_
    show VR B _ _ (.tup ws) _
    simp only [VR]
    exact ⟨p, vs, rfl, .inl (.inl upd_same), VRs.up (Ev.pure (o := .tup vs) M1 hp).gk ⟨[], by simp [Gh.frz]⟩ _ _ rv⟩
  · exact h1.elim
theorem e_list (ha : PAm B X Wx n xs es) : PEm B X Wx n (.List xs pos) (.list es) := PE.mono (pe_lst ha) fun σ H Q h => by
  obtain ⟨g, env, m, H0, M, R, h⟩ := h
  simp only [evE] at h
  refine tWs_bind M R Ev.refl h fun ws m1 g1 vs H1 he e1 e1' M1 R1 rv h1 => ?_
  split at h1
  · rename_i hz
    refine ⟨by rw [← rv.length]; exact hz, fun p hp => ?_⟩
    exact h1 _ _ _ (e1.trans (Ev.new hp)) (MR.new M1 hp) (RR.mk M1 hp (e1.none hp) ⟨vs, upd_same, rv⟩)
  · exact h1.elim
/-! ### dict displays -/
def trs (B : Tb) (cf : CF) (Wx : WX) : Ps → List (TE × TE)
  | .nil => []
  | .cons k v ps => (tE B cf Wx k, tE B cf Wx v) :: trs B cf Wx ps
def VPs (B : Tb) (g : Gh) : List (W × W) → List (V × V) → Prop
  | [], vs => vs = []
  | p :: ps, vs => ∃ q qs, vs = q :: qs ∧ VR B g.G g.ρ p.1 q.1 ∧ VR B g.G g.ρ p.2 q.2 ∧ VPs B g ps qs
theorem VPs.ev {g g' : Gh} {H H' : Hp} (e : Ev g H g' H') : ∀ {ps : List (W × W)} {vs : List (V × V)}, VPs B g ps vs → VPs B g' ps vs
  | [], _, h => h
  | p :: ps, vs, h => by
    obtain ⟨q, qs, rfl, h1, h2, h3⟩ := h
    exact ⟨q, qs, rfl, e.vr h1, e.vr h2, VPs.ev e h3⟩
abbrev relP (B : Tb) : Gh → Hp → List (W × W) → List (V × V) → Prop := fun g' _ ps vs => VPs B g' ps vs
theorem tPs_ok {γ δ : Type} {rel2 : Gh → Hp → γ → δ → Prop} : ∀ (ps : Ps) {g gc : Gh} {H Hc H0 : Hp} {mc : Mem} {env : En} {σ : L2.St} {f : List (W × W) → Mem → Out γ} {Q : δ → Hp → Prop} {Kt : List (V × V) → Hp → Prop}
    (Mc : MR B gc mc Hc) (Rc : ER B gc env σ Hc H0) (ev : Ev g H gc Hc) (h : OkG B g H rel2 ((evKs B.T (cfN B.T n) env ps mc).bind f) Q (fun c d H' => Wx c d σ H'))
    (K : ∀ qs m1 g1 vs H1, Ev g H g1 H1 → Ev gc Hc g1 H1 → MR B g1 m1 H1 → ER B g1 env σ H1 H0 → VPs B g1 qs vs → OkG B g H rel2 (f qs m1) Q (fun c d H' => Wx c d σ H') → Kt vs H1),
    tPairs (trs B (cfN B.T n) Wx ps) σ Hc Kt
  | .nil, g, gc, H, Hc, H0, mc, env, σ, f, Q, Kt, Mc, Rc, ev, h, K => by
    simp only [evKs, Out.bind] at h
    exact K [] mc gc [] Hc ev Ev.refl Mc Rc rfl h
  | .cons k v ps, g, gc, H, Hc, H0, mc, env, σ, f, Q, Kt, Mc, Rc, ev, h, K => by
    simp only [evKs] at h
    have as1 : ∀ {α β γ : Type} (r : Out α) (f : α → Mem → Out β) (g : β → Mem → Out γ), (r.bind f).bind g = r.bind fun x m => (f x m).bind g := fun r f g => by cases r <;> rfl
    rw [as1] at h
    refine tE_bindF Mc Rc ev h fun rx m1 g1 x H1 he e1 e1' M1 R1 fx h1 => ?_
    rw [as1] at h1
    refine tE_bindF M1 R1 e1 h1 fun ry m2 g2 y H2 he2 e2 e2' M2 R2 fy h2 => ?_
    rw [as1] at h2
    refine tPs_ok ps M2 R2 e2 h2 fun qs m3 g3 vs H3 e3 e3' M3 R3 rv h3 => ?_
    split at h3
    · rename_i wa wb hwa hwb
      exact K ((wa, wb) :: qs) m3 g3 _ H3 e3 (e1'.trans (e2'.trans e3')) M3 R3 ⟨(x, y), vs, rfl, (e2'.trans e3').vr (fx.esc hwa), e3'.vr (fy.esc hwb), rv⟩ h3
    · exact h3.elim
def Ps.len : Ps → Nat
  | .nil => 0 | .cons _ _ ps => ps.len + 1
theorem pairs_keys {g : Gh} : ∀ {ps : List (W × W)} {vs : List (V × V)}, VPs B g ps vs → (ps.all fun p => isKey false p.1) = true →
    ∃ kvs : List (Key × V), vs = kvs.map (fun kv => (kV kv.1, kv.2)) ∧ ps.map (·.1) = kvs.map (fun p => kW p.1) ∧ VRs B g.G g.ρ (ps.map (·.2)) (kvs.map (·.2))
  | [], vs, h, _ => by
    cases h
    exact ⟨[], rfl, rfl, VRs.nil⟩
  | p :: ps, vs, h, hk => by
    obtain ⟨q, qs, rfl, h1, h2, h3⟩ := h
    simp only [List.all_cons, Bool.and_eq_true] at hk
    obtain ⟨kvs, i1, i2, i3⟩ := pairs_keys h3 hk.2
    obtain ⟨k, hk1, hk2⟩ := keyV hk.1 h1
    refine ⟨(k, q.2) :: kvs, ?_, ?_, VRs.cons h2 i3⟩
    · rw [List.map_cons, ← i1, ← hk2]
    · rw [List.map_cons, List.map_cons, ← i2, ← hk1]
theorem merge_rel {g : Gh} : ∀ {ps : List (W × W)} {kvs acc : List (Key × V)} {aks avs : List W}, ps.map (·.1) = kvs.map (fun p => kW p.1) → VRs B g.G g.ρ (ps.map (·.2)) (kvs.map (·.2)) →
    aks = acc.map (fun p => kW p.1) → VRs B g.G g.ρ avs (acc.map (·.2)) →
    (ps.foldl (fun a p => dput p.1 p.2 a.1 a.2) (aks, avs)).1 = (mergeK acc kvs).map (fun p => kW p.1) ∧ VRs B g.G g.ρ (ps.foldl (fun a p => dput p.1 p.2 a.1 a.2) (aks, avs)).2 ((mergeK acc kvs).map (·.2))
  | [], kvs, acc, aks, avs, h1, h2, h3, h4 => by
    have : kvs = [] := by cases kvs with | nil => rfl | cons _ _ => simp at h1
    subst this
    exact ⟨h3, h4⟩
  | p :: ps, [], acc, aks, avs, h1, h2, h3, h4 => by simp at h1
  | p :: ps, (k, v) :: kvs, acc, aks, avs, h1, h2, h3, h4 => by
    simp only [List.map_cons, List.cons.injEq] at h1
    simp only [List.map_cons, VRs] at h2
    obtain ⟨u, us, e, r1, r2⟩ := h2
    injection e with e1 e2
    subst e1 e2 h3
    obtain ⟨d1, d2⟩ := dput_rel (q := k) r1 h4
    rw [← h1.1] at d1 d2
    exact merge_rel (ps := ps) (kvs := kvs) (acc := putK acc k v) h1.2 r2 d1 d2
theorem e_dict {ps : Ps} {keys : List (Option Expr)} {values : List Expr} (hp : PPs X pos keys values (trs B (cfN B.T n) Wx ps)) (hall : keys.all (·.isSome) = true) (hl : keys.length = values.length) (h0 : keys ≠ []) (h15 : keys.length ≤ 15) :
    PEm B X Wx n (.Dict keys values pos) (.dict false ps) := PE.mono (pe_disp hp hall hl h0 h15) fun σ H Q h => by
  obtain ⟨g, env, m, H0, M, R, h⟩ := h
  simp only [evE] at h
  intro p hp
  have e0 : Ev g H g (upd H p (.dK [])) := Ev.new hp
  refine tPs_ok ps (MR.new M hp) (R.ev e0) e0 h fun qs m1 g1 vs H1 e1 e1' M1 R1 rv h1 => ?_
  have gp : g.G p = none := M.gno hp
  have rp : p ∉ g.ρ := M.rno hp
  have hp1 : H1 p = some (.dK []) := e1'.keepOwn gp rp upd_same
  split at h1
  · rename_i hc
    simp only [Bool.and_eq_true, decide_eq_true_eq] at hc
    obtain ⟨kvs, i1, i2, i3⟩ := pairs_keys rv hc.1
    refine ⟨hp1, kvs, i1, ?_, ?_⟩
    · have := congrArg List.length i2
      simp only [List.length_map] at this
      omega
    · have gp1 : g1.G p = none := e1'.gno gp (show upd H p (.dK []) p = some _ from upd_same)
      have rp1 : p ∉ g1.ρ := e1'.rno rp (show upd H p (.dK []) p = some _ from upd_same)
      obtain ⟨m1', m2'⟩ := merge_rel (acc := []) i2 i3 rfl VRs.nil
      exact h1 g1 _ _ (e1.ownWr hp Wr.upd) (M1.ownWr gp1 rp1 Wr.upd) ⟨p, rfl, gp1, rp1, ⟨_, rfl, upd_same, m1', m2'⟩, hp⟩
  · exact h1.elim
theorem e_dict0 : PEm B X Wx n (.Dict [] [] pos) (.dict false .nil) := PE.mono pe_dnewK fun σ H Q h => by
  obtain ⟨g, env, m, H0, M, R, h⟩ := h
  simp only [evE, evKs, Out.bind] at h
  intro p hp
  exact h g _ _ (Ev.new hp) (MR.new M hp) (RR.mk M hp hp ⟨[], rfl, upd_same, rfl, VRs.nil⟩)
/-! ### items, slices -/
theorem e_ix (D : Gd B sc X Wx n) (ha : PEm B X Wx n ea a) (hb : PEm B X Wx n eb b) (hs : noSl eb = true) : PEm B X Wx n (.Subscript ea eb pos) (.ix a b) := PE.mono (pe_ix ix_any ha hb (plainIx_ok hs)) fun σ H Q h => by
  obtain ⟨g, env, m, H0, M, R, h⟩ := h
  simp only [evE] at h
  refine tE_bindF M R Ev.refl h fun rx m1 g1 x H1 he e1 e1' M1 R1 fx h1 => ?_
  refine tE_bindF M1 R1 e1 h1 fun ry m2 g2 y H2 he2 e2 e2' M2 R2 fy h2 => ?_
  split at h2
  · rename_i u k hu hk
    split at h2
    · rename_i w hw
      exact ixV_ok D.K D.un1 M2 ((fx.ev e2').rd M2 R2 hu) (fy.esc hk) hw fun z hz => h2 g2 z H2 e2 M2 hz
    · exact h2.elim
  · exact h2.elim
/-- a slice's part -/
def tPo (B : Tb) (cf : CF) (Wx : WX) (es : Es) : TO := fun σ H Q => ∃ g env m H0, MR B g m H ∧ ER B g env σ H H0 ∧
  OkG B g H (fun _ _ (o : Option Int) (o' : Option Int) => o = o') ((evWs B.T cf env es m).bind fun l m1 => match optInt l with | some o => .ok o m1 | none => .stuck) Q (fun c d H' => Wx c d σ H')
theorem p_none : PO X none (tPo B (cfN B.T n) Wx .nil) := ⟨fun pins s σ H Q I h => po_none.run pins s σ H Q I (by
  obtain ⟨g, env, m, H0, M, R, h⟩ := h
  simp only [evWs, Out.bind, optInt] at h
  exact h g none H Ev.refl M rfl)⟩
theorem p_some (ha : PEm B X Wx n ea a) : PO X (some ea) (tPo B (cfN B.T n) Wx (.cons a .nil)) := ⟨fun pins s σ H Q I h => (po_some ha).run pins s σ H Q I (by
  obtain ⟨g, env, m, H0, M, R, h⟩ := h
  simp only [evWs] at h
  have as1 : ∀ {α β γ : Type} (r : Out α) (f : α → Mem → Out β) (g : β → Mem → Out γ), (r.bind f).bind g = r.bind fun x m => (f x m).bind g := fun r f g => by cases r <;> rfl
  rw [as1] at h
  refine tE_bindF M R Ev.refl h fun rx m1 g1 x H1 he e1 e1' M1 R1 fx h1 => ?_
  split at h1
  · rename_i w hw
    simp only [Out.bind] at h1
    cases w with
    | int i =>
      cases fx.esc hw
      exact ⟨i, rfl, h1 g1 (some i) H1 e1 M1 rfl⟩
    | _ => exact (h1 : False).elim
  · exact (h1 : False).elim)⟩
theorem tPo_bind {γ δ : Type} {rel2 : Gh → Hp → γ → δ → Prop} {g gc : Gh} {H Hc H0 : Hp} {mc : Mem} {env : En} {σ : L2.St} {f : Option Int → Mem → Out γ} {Q : δ → Hp → Prop} {Kt : Option Int → Hp → Prop}
    (Mc : MR B gc mc Hc) (Rc : ER B gc env σ Hc H0) (ev : Ev g H gc Hc)
    (h : OkG B g H rel2 ((evWs B.T (cfN B.T n) env es mc).bind fun l m1 => match optInt l with | some o => f o m1 | none => .stuck) Q (fun c d H' => Wx c d σ H'))
    (K : ∀ o m1 g1 H1, Ev g H g1 H1 → Ev gc Hc g1 H1 → MR B g1 m1 H1 → ER B g1 env σ H1 H0 → OkG B g H rel2 (f o m1) Q (fun c d H' => Wx c d σ H') → Kt o H1) : tPo B (cfN B.T n) Wx es σ Hc Kt := by
  refine ⟨gc, env, mc, H0, Mc, Rc, ?_⟩
  have e : ((evWs B.T (cfN B.T n) env es mc).bind fun l m1 => match optInt l with | some o => f o m1 | none => .stuck) =
      (((evWs B.T (cfN B.T n) env es mc).bind fun l m1 => match optInt l with | some o => .ok o m1 | none => .stuck).bind f) := by
    cases evWs B.T (cfN B.T n) env es mc with
    | stuck => rfl
    | exc x m' => rfl
    | ok ws m' =>
      show (match optInt ws with | some o => f o m' | none => .stuck) = Out.bind (match optInt ws with | some o => .ok o m' | none => .stuck) f
      cases optInt ws <;> rfl
  rw [e] at h
  exact h.bind ev fun x m1 g1 y H1 _ e1 e2 M q h1 => by
    cases q
    exact K x m1 g1 H1 e1 e2 M (Rc.ev e2) h1
theorem e_slice {lo hi : Es} {olo ohi : Option Expr} {p2 : Pos} (D : Gd B sc X Wx n) (ha : PEm B X Wx n ea a) (hlo : PO X olo (tPo B (cfN B.T n) Wx lo)) (hhi : PO X ohi (tPo B (cfN B.T n) Wx hi)) :
    PEm B X Wx n (.Subscript ea (.Slice olo ohi none p2) pos) (.slice a lo hi) := PE.mono (pe_slice sl_any ha hlo hhi) fun σ H Q h => by
  obtain ⟨g, env, m, H0, M, R, h⟩ := h
  simp only [evE] at h
  refine tE_bindF M R Ev.refl h fun rx m1 g1 x H1 he e1 e1' M1 R1 fx h1 => ?_
  refine tPo_bind M1 R1 e1 h1 fun o1 m2 g2 H2 e2 e2' M2 R2 h2 => ?_
  refine tPo_bind M2 R2 e2 h2 fun o2 m3 g3 H3 e3 e3' M3 R3 h3 => ?_
  split at h3
  · rename_i u hu
    obtain ⟨rv, q1, q⟩ := h3.lift
    exact sliceV_ok (env := env) (σ := σ) D.K M3 ((fx.ev (e2'.trans e3')).rd M3 R3 hu) q1 fun g' z H' e4 M4 r4 => q g' z H' (e3.trans e4) M4 (r4.back e3)
  · exact h3.elim
theorem e_rev {k : Nat} {p1 p2 p3 : Pos} (D : Gd B sc X Wx n) (ha : PEm B X Wx n ea a) : PEm B X Wx n (.Subscript ea (.Slice none none (some (.UnaryOp .USub (.Constant (.int 1) k p1) p2)) p3) pos) (.rev a) := PE.mono (pe_revL ha) fun σ H Q h => by
  obtain ⟨g, env, m, H0, M, R, h⟩ := h
  simp only [evE] at h
  refine tE_bindF M R Ev.refl h fun rx m1 g1 x H1 he e1 e1' M1 R1 fx h1 => ?_
  split at h1
  · rename_i xs hu
    obtain ⟨p, vs, rfl, qa, ra⟩ := (fx.rd M1 R1 hu : RD B g1 H1 (.lst xs) x)
    exact ⟨p, vs, rfl, SqL.of qa, fun p' hp => h1 _ _ _ (e1.trans (Ev.new hp)) (MR.new M1 hp) (RR.mk M1 hp (e1.none hp) ⟨_, upd_same, ra.rev⟩)⟩
  · exact h1.elim
end
end Mi

set_option Elab.async false
set_option linter.all false
set_option maxRecDepth 100000
set_option maxHeartbeats 1000000
/-! Mi16: calls as they are written. -/
namespace Mi
open PySem PySem.Spec L2
open PyProof.Rows (Fr News envOfC)

theorem Out.bind_as {α β γ : Type} (r : Out α) (f : α → Mem → Out β) (g : β → Mem → Out γ) : (r.bind f).bind g = r.bind fun x m => (f x m).bind g := by cases r <;> rfl
section
variable {X : Cx} {ea : Expr} {ta : TE} {t : TA} {x : Str} {p pos apos : Pos} {xs : List Expr} {C : Addr}
def callS (X : Cx) (f : Value) (σ : L2.St) : List V → Hp → VK → Prop := fun vs H Q => ∀ (pins : List (Addr × Obj)) (s : Shared) (us : List Value), Inv X pins σ H s → Vals vs us → wpAny (model X.prog X.w) X.A (call f us) (EP X pins σ Q) X.xe s
def tCallS' (X : Cx) (f : Value) (t : TA) : TE := fun σ H Q => t σ H fun vs H1 => callS X f σ vs H1 Q
/-- f(..), f a def or a class of the text -/
theorem pe_callM {f : Addr} (hg : Gl X x) (hm : X.mg x = some (.ref f)) (hk : PySem.W.keepIn X.K (.ref f) = true) (ha : PA X xs t) (hs : xs.all ns = true) (h0 : xs = [] → ∀ σ H Q, t σ H Q → Q [] H) (hdb : (x == ("__debug__" : Str)) = false) :
    PE X (.Call (.Name x p) xs [] pos) (tCallS' X (.ref f) t) := by
  refine ⟨fun pins s σ H Q I h => ?_⟩
  refine wpAny_Call_Name_kw (ld_glob I hg hm ?_ hdb)
  cases xs with
  | nil => exact PySem.W.callWith_K0 I.kIn hk (h0 rfl σ H _ h pins s [] I .nil)
  | cons e es =>
    simp only [List.all_cons, Bool.and_eq_true] at hs
    exact PySem.W.callWith_K (h₀ := X.base) I.ok.mod.kin hk (thn (ha.run pos pins s σ H _ I h) fun us s1 ⟨vs, H1, I1, r, q⟩ => ⟨I1.kIn, q pins s1 us I1 r⟩) (star_cons hs.1) (star_any hs.2)
/-- o.m(..), m a plain method -/
def pl0 (o : Expr) (env : Env) : Sem Bool := do return (← importBound o env).getD true
theorem meth_eval {o : Expr} {m : Str} {env : Env} (hb : baseB o = true) (hs : xs.all ns = true) (hn : xs.length < 30) (hl : (apos.endLine == pos.line) = true) :
    eval (.Call (.Attribute o m apos) xs [] pos) env = (do
      let ov ← eval o env
      standAt apos.atName
      let (f, first) ← holding [ov] (getMethod ov m (pl0 o env))
      callWith pos f first (backTo pos (starEach xs env)) (backToKw pos (keywordEach [] env))) := by
  rw [arm_eval_Call, base_ok hb]
  have few : methodCallForm (xs.length + ([] : List Keyword).length) (backTo pos (starEach xs env)) (backToKw pos (keywordEach [] env)) = true := by
    unfold methodCallForm
    rw [star_all hs]
    have : (xs.length + 0 + 0 < 30) := by omega
    simp only [List.length_nil, keywordEach, backToKw, List.map_nil, List.all_nil, Bool.and_self, Bool.true_and, List.isEmpty_nil, if_true]
    exact decide_eq_true this
  unfold methodCall
  rw [few]
  unfold methodCallPos
  rw [hl]
  rfl
def methS (X : Cx) (m : Str) (pl : Sem Bool) (σ : L2.St) (x : V) (k : Addr → VK → St → Hp → Prop) : Prop := True
def tMethM (X : Cx) (ta : TE) (t : TA) (R : V → Hp → Addr → Prop) : TE := fun σ H Q => ta σ H fun x H1 => ∃ f, R x H1 f ∧ t σ H1 fun vs H2 => callS X (.ref f) σ (x :: vs) H2 Q
theorem pe_methM {m : Str} {R : V → Hp → Addr → Prop} (hR : ∀ x H f, R x H f → ∃ a C dx fs, x = .ref a ∧ H a = some (.ins C dx fs) ∧ Cls X.K C ∧ Meth X.K C m f ∧ fs.lookup m = none)
    (he : PE X ea ta) (ha : PA X xs t) (hb : baseB ea = true) (hs : xs.all ns = true) (hn : xs.length < 30) (hl : (apos.endLine == pos.line) = true) (h0 : xs = [] → ∀ σ H Q, t σ H Q → Q [] H) :
    PE X (.Call (.Attribute ea m apos) xs [] pos) (tMethM X ta t R) := by
  refine ⟨fun pins s σ H Q I h => ?_⟩
  refine PySem.W.methodCall_KW (pl := pl0 ea X.env) (thn (he.run pins s σ H _ I h) fun u s1 ⟨x, H1, I1, rx, f, rf, q⟩ => ?_) (meth_eval hb hs hn hl)
  obtain ⟨a, C, dx, fs, rfl, hp, c, hm, hlk⟩ := hR x H1 f rf
  obtain rfl : u = Value.ref a := rx
  refine getmeth_ok I1 hp c hm hlk ?_
  cases xs with
  | nil => exact PySem.W.callWith_K0 (first := [.ref a]) I1.kIn hm.kp (h0 rfl σ H1 _ q pins s1 [.ref a] I1 (.cons rfl .nil))
  | cons e es =>
    simp only [List.all_cons, Bool.and_eq_true] at hs
    exact PySem.W.callWith_K (first := [.ref a]) (h₀ := X.base) I.ok.mod.kin hm.kp (thn (ha.run pos pins s1 σ H1 _ I1 q) fun us s2 ⟨vs, H2, I2, r, q2⟩ => ⟨I2.kIn, q2 pins s2 (.ref a :: us) I2 (.cons rfl r)⟩) (star_cons hs.1) (star_any hs.2)
end

section
variable {B : Tb} {X : Cx} {Wx : WX} {n : Nat} {sc : Sc} {pos p apos : Pos} {e ea eb ec : Expr} {a b c : E} {es : Es} {xs : List Expr} {x : Str}
def Es.nilB : List Expr → Es → Prop := fun xs es => xs = [] → es = .nil
theorem tWs_nil {σ : L2.St} {H : Hp} {Q : List V → Hp → Prop} (h : tWs B (cfN B.T n) Wx .nil σ H Q) : Q [] H := by
  obtain ⟨g, env, m, H0, M, R, h⟩ := h
  simp only [evWs] at h
  exact h g [] H Ev.refl M VRs.nil
theorem e_call {f : Nat} {np fns : Nat} {bd : Ss} (D : Gd B sc X Wx n) (hf : B.T.fn f = some (np, fns, bd)) (hx : B.T.fnm f = x) (h0 : x ≠ Str.empty) (hg : glB sc.scope x = true) (ha : PAm B X Wx n xs es) (hs : xs.all ns = true) (hz : Es.nilB xs es) :
    PEm B X Wx n (.Call (.Name x p) xs [] pos) (.call f es) := by
  subst hx
  obtain ⟨hm, hk, hd⟩ := D.fc.fn f np fns bd hf h0
  refine PE.mono (pe_callM (glB_ok (by rw [D.sco]; exact hg)) (by rw [D.mg]; exact hm) (by rw [D.K]; exact hk) ha hs (fun e σ H Q h => by rw [hz e] at h; exact tWs_nil h) hd) fun σ H Q h => ?_
  obtain ⟨g, env, m, H0, M, R, h⟩ := h
  simp only [evE] at h
  refine tWs_bind M R Ev.refl h fun ws m1 g1 vs H1 he e1 e1' M1 R1 rv h1 => ?_
  obtain ⟨np', ns', bd', hf', hl⟩ := cf_fn h1
  exact fun pins s us I r => call_ok (env := env) D hf' M1 e1 rv hl h1 I r
theorem e_new {cl : Nat} {np fns : Nat} {bd : Ss} (D : Gd B sc X Wx n) (hf : B.T.ini cl = some (np, fns, bd)) (hx : B.T.cnm cl = x) (hg : glB sc.scope x = true) (ha : PAm B X Wx n xs es) (hs : xs.all ns = true) (hz : Es.nilB xs es) :
    PEm B X Wx n (.Call (.Name x p) xs [] pos) (.new cl es) := by
  subst hx
  obtain ⟨hc, hM, hm, hd, hnd, hlen⟩ := D.fc.cls cl np fns bd hf
  refine PE.mono (pe_callM (glB_ok (by rw [D.sco]; exact hg)) (by rw [D.mg]; exact hm) (by rw [D.K]; exact hM.kp) ha hs (fun e σ H Q h => by rw [hz e] at h; exact tWs_nil h) hd) fun σ H Q h => ?_
  obtain ⟨g, env, m, H0, M, R, h⟩ := h
  simp only [evE] at h
  refine tWs_bind M R Ev.refl h fun ws m1 g1 vs H1 he e1 e1' M1 R1 rv h1 => ?_
  intro pins s us I r
  obtain ⟨fd, ps, hps, F, hb⟩ := (D.fns.ini cl np fns bd hf).ok
  rw [← D.prog, ← D.w, ← D.K, ← D.mg, ← D.base] at F
  rw [← D.K] at hb hM
  refine run_makeG hM F D.room D.gd hb (D.pa σ) I r fun q dx hq hdx hne => ?_
  have H2d : upd H1 dx (.own q) q = none := by rw [upd_ne (fun z => hne z.symm)]; exact hq
  have e2 : Ev g1 H1 g1 (upd (upd H1 dx (.own q)) q (.ins (B.cA cl) dx [])) := (Ev.new hdx).trans (Ev.new H2d)
  have M2 := MR.new (o := .ins (B.cA cl) dx []) (MR.new (o := .own q) M1 hdx) H2d
  refine ⟨g1, m1, ws, q, H1, vs, rfl, M2, rv, ?_, ⟨dx, [], by simp [upd_same], Nat.zero_le _, VRs.nil⟩, M1.gno hq, M1.rno hq, hq, e2, OkG.bind e1 h1 fun ob m3 g3 y H3 _ e3 e3' M3 r3 h3 => ?_⟩
  · obtain ⟨np', ns', bd', hf', hl⟩ := cf_new (rel := relI B q) (Q := fun _ _ => True) (OkG.bind e1 h1 fun _ _ _ _ _ _ _ _ _ _ _ => True.intro)
    rw [hf] at hf'
    cases hf'
    exact hl
  · obtain ⟨hy, r1, r2, r3⟩ := r3
    exact ⟨hy, h3 g3 _ H3 e3 M3 ⟨q, rfl, r2, r3, r1, e1.none hq⟩⟩
theorem e_meth {mid : Nat} (D : Gd B sc X Wx n) (ha : PEm B X Wx n ea a) (hr : PAm B X Wx n xs es) (hb : baseB ea = true) (hs : xs.all ns = true) (hn : xs.length < 30) (hl : (apos.endLine == pos.line) = true) (hz : Es.nilB xs es) :
    PEm B X Wx n (.Call (.Attribute ea (B.T.mnm mid) apos) xs [] pos) (.meth mid a es) := by
  refine PE.mono (pe_methM (R := fun x H f => ∃ q C dx fs, x = .ref q ∧ H q = some (.ins C dx fs) ∧ Cls X.K C ∧ Meth X.K C (B.T.mnm mid) f ∧ fs.lookup (B.T.mnm mid) = none) (fun _ _ _ h => h) ha hr hb hs hn hl (fun e σ H Q h => by rw [hz e] at h; exact tWs_nil h)) fun σ H Q h => ?_
  obtain ⟨g, env, m, H0, M, R, h⟩ := h
  simp only [evE] at h
  refine tE_bindF M R Ev.refl h fun rx m1 g1 x H1 he e1 e1' M1 R1 fx h1 => ?_
  split at h1
  · rename_i pr hp
    unfold methF at hp
    split at hp
    · rename_i c fs hrd
      split at hp
      · rename_i w f hw hf
        cases hp
        obtain ⟨Mt, ⟨i, hi⟩, hni, _⟩ := D.fc.mth c mid f hf
        obtain ⟨hc, _⟩ := D.fc.cls c i.1 i.2.1 i.2.2 hi
        obtain ⟨q, dx, vs, rfl, hq, _⟩ := (fx.rd M1 R1 hrd : RD B g1 H1 (.ins c fs) x)
        refine ⟨B.fA f, ⟨q, B.cA c, dx, _, rfl, hq, by rw [D.K]; exact hc, by rw [D.K]; exact Mt, look_zip hni⟩, ?_⟩
        refine tWs_bind M1 R1 e1 h1 fun ws m2 g2 vs2 H2 he2 e2 e2' M2 R2 rv h2 => ?_
        obtain ⟨np', ns', bd', hf', hl'⟩ := cf_fn h2
        exact fun pins s us I r => call_ok (env := env) D hf' M2 e2 (VRs.cons (e2'.vr (fx.esc hw)) rv) hl' h2 I r
      · cases hp
    · cases hp
  · exact h1.elim
end
end Mi

set_option Elab.async false
set_option linter.all false
set_option maxRecDepth 100000
set_option maxHeartbeats 1000000
/-! Mi17: attributes, built-ins, isinstance. -/
namespace Mi
open PySem PySem.Spec L2
open PyProof.Rows (Fr News envOfC)

section
variable {X : Cx} {ea : Expr} {ta : TE} {t : TA} {x f : Str} {p pos apos : Pos} {xs : List Expr} {C : Addr}
def attS (X : Cx) (f : Str) (σ : L2.St) : V → Hp → VK → Prop := fun x H Q => ∀ (pins : List (Addr × Obj)) (s : Shared) (u : Value), Inv X pins σ H s → RelV x u → wpAny (model X.prog X.w) X.A (getAttr u f true) (EP X pins σ Q) X.xe s
theorem pe_attM (he : PE X ea ta) (hb : baseB ea = true) : PE X (.Attribute ea f pos) (fun σ H Q => ta σ H fun x H1 => attS X f σ x H1 Q) := by
  refine ⟨fun pins s σ H Q I h => ?_⟩
  exact attr_of (base_ok hb) (thn (he.run pins s σ H _ I h) fun u s1 ⟨x, H1, I1, rx, q⟩ => q pins s1 u I1 rx)
/-- a property's getter -/
theorem getpropG {k : Nat} {C q g a dx : Addr} {fs : List (Str × V)} {fd : FuncData} {ps : List Str} {sp : Sp} {pins : List (Addr × Obj)} {σ : L2.St} {H : Hp} {s : Shared} {Q : VK} {b : Bool} {E' : Value → Shared → Prop} (I : Inv X pins σ H s) (ea : H a = some (.ins C dx fs)) (c : Cls X.K C) (hp : PropOf X.K C f q g)
    (F : FG X.prog X.w X.K X.mg X.base k g fd ps sp) (hr : Room (k + 1) X.A) (hgd : X.A.guards = some []) (hb : Binds X.K fd ps []) (h : sp [.ref a] H Q (fun _ _ _ => False)) :
    wpAny (model X.prog X.w) X.A (getAttr (.ref a) f b) (EP X pins σ Q) E' s := by
  obtain ⟨mA, O, _, _, _, _⟩ := ins_get I.hok ea
  obtain ⟨od, J, _⟩ := O.look
  obtain ⟨rest, hrec⟩ := hp.rec_
  have I1 := I.tok (s.toks + 1)
  have hl : ([Value.ref a] ++ []).length = ps.length := by
    rw [← F.len _ _ _ _ h]
    rfl
  have hc : (PySem.W.clsIn X.K C).isSome = true := by
    obtain ⟨cd, hc, _⟩ := PySem.W.any_some c.hd
    rw [hc]
    rfl
  have bb := hb { s with toks := s.toks + 1 } [.ref a] I1.kIn hl
  rw [List.append_nil] at bb
  refine PySem.W.get_bind I.kIn J (PySem.W.plainGet_of (c.get f)).1 (PySem.W.findObj_data hc hp.at_ hp.get hp.tak) (PySem.W.plainGet_of (c.get f)).2 (wpAny_call (PySem.W.prop_get (s := { s with toks := s.toks + 1 }) I.kIn hrec ?_))
  refine codeAny_mono (F.run X.A.in1 X.stack { s with toks := s.toks + 1 } H ⟨[.ref a], []⟩ [.ref a] [.ref a] Q _ hr.in1 hgd I1.env0.in1 bb (.cons rfl .nil) h) fun r s' hq => ?_
  cases r with
  | error er =>
    obtain ⟨_, _, _, _, _, _, _, _, _, _, _, _, z⟩ := hq
    exact False.elim z
  | ok fl =>
    cases fl with
    | ret u =>
      obtain ⟨v, H', I3, rv, q3⟩ := I1.after hq
      show wpAny _ _ (handedOut u) _ _ _
      rw [PySem.W.handedOut_of (handed_of rv)]
      exact wpAny_pure ⟨v, H', I3, rv, q3⟩
    | next => exact False.elim hq
    | brk => exact False.elim hq
    | cont => exact False.elim hq
end
section
variable {B : Tb} {X : Cx} {Wx : WX} {n : Nat} {sc : Sc} {pos p apos : Pos} {e ea eb ec : Expr} {a b c : E} {es : Es} {xs : List Expr} {x : Str}
theorem noX_ok {α β : Type} {g : Gh} {H : Hp} {rel : Gh → Hp → α → β → Prop} {r : Out α} {Q : β → Hp → Prop} {We We' : Value → Option Addr → Hp → Prop} (h : OkG B g H rel (noX r) Q We) : OkG B g H rel r Q We' := by
  cases r with
  | ok x m => exact h
  | exc x m => exact (h : False).elim
  | stuck => exact h
theorem e_attr {k : Nat} (D : Gd B sc X Wx n) (ha : PEm B X Wx n ea a) (hb : baseB ea = true) : PEm B X Wx n (.Attribute ea (B.T.anm k) pos) (.attr a k) := by
  refine PE.mono (pe_attM ha hb) fun σ H Q h => ?_
  obtain ⟨g, env, m, H0, M, R, h⟩ := h
  simp only [evE] at h
  refine tE_bindF M R Ev.refl h fun rx m1 g1 x H1 he e1 e1' M1 R1 fx h1 => ?_
  unfold attrG at h1
  split at h1
  · rename_i c fs hrd
    split at h1
    case isFalse => exact h1.elim
    rename_i hex
    split at h1
    case h_2 => exact h1.elim
    rename_i j hj
    split at h1
    case h_2 => exact h1.elim
    rename_i w hw
    obtain ⟨q, dx, vs, rfl, hq, hd, hle, hvs⟩ := (fx.rd M1 R1 hrd : RD B g1 H1 (.exc c fs) x)
    obtain ⟨T, hno, hj1, hnd⟩ := D.fc.xf c k j hex hj
    obtain ⟨v, hv, rv⟩ := hvs.get hw
    intro pins s u I ru
    cases ru
    obtain ⟨⟨oe, vo, ho, hz, hdt⟩, _, _⟩ := (show ObjOk X.prog X.w H1 s.heap q (excHO (B.cA c) dx q) from I.hok q _ hq)
    obtain ⟨mA, hns, hr⟩ := (show ObjOk X.prog X.w H1 s.heap dx (.xd ((B.T.fln c).zip vs)) from I.hok dx _ hd)
    obtain ⟨od, hod, hl⟩ := lookIn_ns hns
    have lk := look_zip_at hnd hj1 hv
    obtain ⟨u', hu, ru'⟩ := RelO.some_of (v := v) (o := mA (B.T.anm k)) (by rw [← lk]; exact hr (B.T.anm k))
    have J : PySem.W.InstAt s.heap q oe (B.cA c) (some od) := ⟨ho, hz.1, by unfold PySem.W.notCls; rw [hdt] <;> rfl, by rw [hz.2]; exact hod⟩
    rw [← D.K] at T hno
    exact PySem.HandSPX.exc_get I.kIn J T.ga T.gg T.exC (PySem.W.findObj_own T.hdC hno rfl (by rw [hl, hu])) (handed_of ru') ⟨v, H1, I.tok _, ru', h1 g1 v H1 e1 M1 rv⟩
  · rename_i c fs hrd
    obtain ⟨q, dx, vs, rfl, hq, hle, hvs⟩ := (fx.rd M1 R1 hrd : RD B g1 H1 (.ins c fs) x)
    split at h1
    case isFalse => exact h1.elim
    rename_i hini
    obtain ⟨i, hi⟩ := Option.isSome_iff_exists.mp hini
    obtain ⟨hc, _, _, _, hnd, _⟩ := D.fc.cls c i.1 i.2.1 i.2.2 hi
    split at h1
    · rename_i gi hgi
      obtain ⟨⟨pp, hp⟩, _, nsg, bdg, hfg⟩ := D.fc.prp c k gi hgi
      split at h1
      · rename_i w hw
        have h1 := noX_ok (We' := fun _ _ _ => False) h1
        obtain ⟨np', ns', bd', hf', hl'⟩ := cf_fn h1
        obtain ⟨fd, ps, hps, F, hbd⟩ := (D.fns.fn gi np' ns' bd' hf').ok
        rw [← D.prog, ← D.w, ← D.K, ← D.mg, ← D.base] at F
        rw [← D.K] at hbd hc hp
        intro pins s u I ru
        cases ru
        exact getpropG I hq hc hp F D.room D.gd hbd ⟨g1, m1, [w], M1, VRs.cons (fx.esc hw) VRs.nil, hl', h1.to e1 fun g' H' x y z => relC_relR e1 z⟩
      · exact h1.elim
    · split at h1
      · rename_i j hj
        split at h1
        · rename_i w hw
          obtain ⟨hj1, hj2⟩ := D.fc.fld c k j hj
          obtain ⟨v, hv, rv⟩ := hvs.get hw
          intro pins s u I ru
          cases ru
          exact getattr_ok I hq (by rw [D.K]; exact hc) (by rw [D.K]; exact hj2 ⟨i, hi⟩) (look_zip_at hnd hj1 hv) fun u' s' I' r' => ⟨v, H1, I', r', h1 g1 v H1 e1 M1 rv⟩
        · exact h1.elim
      · exact h1.elim
  · exact h1.elim
end
end Mi

set_option Elab.async false
set_option linter.all false
set_option maxRecDepth 100000
set_option maxHeartbeats 1000000
/-! Mi18: methods of built-in types, built-ins, isinstance, cells, as they are written. -/
namespace Mi
open PySem PySem.Spec L2
open PyProof.Rows (Fr News envOfC)

section
variable {X : Cx} {ea : Expr} {ta : TE} {t : TA} {x f : Str} {p pos apos : Pos} {xs : List Expr} {k : Bm}
def tBmM (X : Cx) (k : Bm) (ta : TE) (t : TA) : TE := fun σ H Q => ta σ H fun x H1 => ∃ T, bmHas k T = true ∧ TyA X T.s x H1 ∧ t σ H1 fun vs H2 => mAny X (bmId k T) x vs H2 Q
theorem pe_bmM (he : PE X ea ta) (ha : PA X xs t) (hb : baseB ea = true) (hs : xs.all ns = true) (hn : xs.length < 30) (hl : (apos.endLine == pos.line) = true) (h0 : xs = [] → ∀ σ H Q, t σ H Q → Q [] H) :
    PE X (.Call (.Attribute ea k.name apos) xs [] pos) (tBmM X k ta t) := by
  refine ⟨fun pins s σ H Q I h => ?_⟩
  have hfew : ((backTo pos (starEach xs X.env)).all (fun x => !x.1) && (backToKw pos (keywordEach [] X.env)).all (fun x => x.1.isSome)
      && decide (xs.length + ([] : List Keyword).length + (if ([] : List Keyword).isEmpty then 0 else 1) < 30)) = true := by
    rw [star_all hs]
    have : (xs.length + 0 + 0 < 30) := by omega
    simp only [List.length_nil, keywordEach, backToKw, List.map_nil, List.all_nil, Bool.and_self, Bool.true_and, List.isEmpty_nil, if_true]
    exact decide_eq_true this
  refine wpAny_Call_method_late (base_ok hb) hfew hl rfl (thn (he.run pins s σ H _ I h) fun v s1 ⟨x, H1, I1, r1, T, hT, ty, q1⟩ => ?_)
  obtain ⟨h1, h2⟩ := ty pins σ s1 v I1 r1
  have F := bm_facts hT
  refine ⟨T.s, bmId k T, F.pa, F.slot, F.ty, h1, h2, ?_⟩
  cases xs with
  | nil => exact Calls.callWith_builtin rfl (PySem.evalArgs_none (mt_any pins s1 σ H1 x [] v [] Q I1 r1 .nil (h0 rfl σ H1 _ q1)))
  | cons e es =>
    have hA := ha.run pos pins s1 σ H1 _ I1 q1
    simp only [List.all_cons, Bool.and_eq_true] at hs
    rw [star_cons hs.1] at hA ⊢
    refine Calls.callWith_builtin (by show (false || (backTo pos (starEach es X.env)).any (·.1)) = false; rw [star_any hs.2] <;> rfl) (Calls.evalArgs_plain ?_)
    exact thn hA fun us s2 ⟨vs, H2, I2, r2, q2⟩ => mt_any pins s2 σ H2 x vs v us Q I2 r1 r2 q2
end

section
variable {B : Tb} {X : Cx} {Wx : WX} {n : Nat} {sc : Sc} {pos p apos : Pos} {e ea eb ec : Expr} {a b c : E} {es : Es} {xs : List Expr} {x : Str}
theorem e_bm {k : Bm} (D : Gd B sc X Wx n) (ha : PEm B X Wx n ea a) (hr : PAm B X Wx n xs es) (hb : baseB ea = true) (hs : xs.all ns = true) (hn : xs.length < 30) (hl : (apos.endLine == pos.line) = true) (hz : Es.nilB xs es) :
    PEm B X Wx n (.Call (.Attribute ea k.name apos) xs [] pos) (.bm k a es) := by
  refine PE.mono (pe_bmM ha hr hb hs hn hl (fun e σ H Q h => by rw [hz e] at h; exact tWs_nil h)) fun σ H Q h => ?_
  obtain ⟨g, env, m, H0, M, R, h⟩ := h
  simp only [evE] at h
  refine tE_bindF M R Ev.refl h fun rx m1 g1 x H1 he e1 e1' M1 R1 fx h1 => ?_
  split at h1
  · rename_i T hT
    unfold bmT at hT
    split at hT
    · rename_i u hu
      split at hT
      · rename_i t ht
        split at hT
        · rename_i hh
          cases hT
          refine ⟨_, hh, tyOf_ok D.K M1 (fx.rd M1 R1 hu) ht (bm_tup hh), ?_⟩
          refine tWs_bind M1 R1 e1 h1 fun ws m2 g2 vs H2 he2 e2 e2' M2 R2 rv h2 => ?_
          unfold bmG at h2
          split at h2
          · rename_i u2 hu2
            split at h2
            · rename_i ht2
              have fx2 := fx.ev e2'
              split at h2
              · rename_i r hr2
                exact bmV_ok (env := env) (σ := σ) D.K D.un M2 (fx2.rd M2 R2 hu2) rv hr2 ht2 fun g' z H' e3 M3 r3 => h2 g' z H' (e2.trans e3) M3 (r3.back e2)
              · split at h2
                · rename_i i
                  split at h2
                  · rename_i o ho
                    split at h2
                    · rename_i pr hpr
                      obtain ⟨ad, had, hO, hG⟩ := M2.get ho
                      have hv : VR B g2.G g2.ρ (.cell i) x := fx2
                      simp only [VR] at hv
                      obtain ⟨ad', had', rfl⟩ := hv
                      rw [had] at had'
                      cases had'
                      have eo : u2 = o.w := by
                        simp only [rd, ho] at hu2
                        exact (Option.some.inj hu2).symm
                      subst eo
                      exact mutV_ok hO rv (show mutV k o ws = some (pr.1, pr.2) from hpr) ht2 fun z H' w hO' hz' => h2 g2 z H' (e2.trans (Ev.cellWr M2 ho had w)) (M2.cellWr ho had w hO') hz'
                    · exact h2.elim
                  · exact h2.elim
                · exact h2.elim
            · exact h2.elim
          · exact h2.elim
        · cases hT
      · cases hT
    · cases hT
  · exact h1.elim
/-! ### built-ins -/
def FRs (B : Tb) (g : Gh) (env : List Sl) (σ : List (Option V)) : List RV → List V → Prop
  | [], vs => vs = []
  | r :: rs, vs => ∃ v us, vs = v :: us ∧ FR B g env σ r v ∧ FRs B g env σ rs us
abbrev relFs (B : Tb) (env : En) (σ : List (Option V)) : Gh → Hp → List RV → List V → Prop := fun g' _ rs vs => FRs B g' env σ rs vs
def tRs (B : Tb) (cf : CF) (Wx : WX) (ir : Es) : TA := fun σ H Q => ∃ g env m H0, MR B g m H ∧ ER B g env σ H H0 ∧ OkG B g H (relFs B env σ) (evRs B.T cf env ir m) Q (fun c d H' => Wx c d σ H')
theorem tRs_bind {γ δ : Type} {rel2 : Gh → Hp → γ → δ → Prop} {cf : CF} {a : Es} {g gc : Gh} {H Hc H0 : Hp} {mc : Mem} {env : En} {σ : L2.St} {f : List RV → Mem → Out γ} {Q : δ → Hp → Prop} {Kt : List V → Hp → Prop}
    (Mc : MR B gc mc Hc) (Rc : ER B gc env σ Hc H0) (ev : Ev g H gc Hc) (h : OkG B g H rel2 ((evRs B.T cf env a mc).bind f) Q (fun c d H' => Wx c d σ H'))
    (K : ∀ rs m1 g1 vs H1, Ev g H g1 H1 → Ev gc Hc g1 H1 → MR B g1 m1 H1 → ER B g1 env σ H1 H0 → FRs B g1 env σ rs vs → OkG B g H rel2 (f rs m1) Q (fun c d H' => Wx c d σ H') → Kt vs H1) :
    tRs B cf Wx a σ Hc Kt :=
  ⟨gc, env, mc, H0, Mc, Rc, h.bind ev fun x m1 g1 y H1 _ e1 e2 M q h1 => K x m1 g1 y H1 e1 e2 M (Rc.ev e2) q h1⟩
theorem r_nil : PA X [] (tRs B (cfN B.T n) Wx .nil) := PA.mono pa_nil fun σ H Q h => by
  obtain ⟨g, env, m, H0, M, R, h⟩ := h
  simp only [evRs] at h
  exact h g [] H Ev.refl M rfl
theorem r_cons (ha : PEm B X Wx n ea a) (hr : PA X xs (tRs B (cfN B.T n) Wx es)) (hs : ns ea = true) : PA X (ea :: xs) (tRs B (cfN B.T n) Wx (.cons a es)) := PA.mono (pa_cons ha hr (star_cons hs)) fun σ H Q h => by
  obtain ⟨g, env, m, H0, M, R, h⟩ := h
  simp only [evRs] at h
  refine tE_bindF M R Ev.refl h fun rx m1 g1 x H1 he e1 e1' M1 R1 fx h1 => ?_
  refine tRs_bind M1 R1 e1 h1 fun rs m2 g2 vs H2 e2 e2' M2 R2 rv h2 => ?_
  exact h2 g2 _ H2 e2 M2 ⟨x, vs, rfl, fx.ev e2', rv⟩
def Blt.nm : Blt → Str
  | .len => "len" | .int => "int" | .max => "max" | .min => "min" | .str => "str" | .repr => "repr"
  | .list => "list" | .tuple => "tuple" | .sorted => "sorted" | .sum => "sum" | .abs => "abs" | .dict => "dict"
  | .lenset => "" | .min1 => ""
def Blt.plain : Blt → Bool
  | .lenset => false | .min1 => false | _ => true
theorem blt_in {b : Blt} (h : b.plain = true) : b.nm ∈ bltNames := by cases b <;> first | (cases h; done) | decide +kernel
theorem blt_boot {b : Blt} (h : b.plain = true) : bootBuiltins b.nm = some b.callee ∧ b.nm ≠ "__name__" ∧ (b.nm == ("__debug__" : Str)) = false := by
  cases b <;> first | (cases h; done) | exact ⟨by decide +kernel, by decide +kernel, by decide +kernel⟩
theorem blt_callee {b : Blt} (h : b.plain = true) : (∃ id, b.callee = .builtin id) ∨ ∃ T, b.callee = .type T := by
  cases b <;> first | (cases h; done) | exact .inl ⟨_, rfl⟩ | exact .inr ⟨_, rfl⟩
theorem pe_bltM {b : Blt} {t : TA} (D : Gd B sc X Wx n) (hb : b.plain = true) (hg : glB sc.scope b.nm = true) (ha : PA X (e :: xs) t) (hs : ns e = true) (hs2 : xs.all ns = true) :
    PE X (.Call (.Name b.nm p) (e :: xs) [] pos) (tCallS' X b.callee t) := by
  refine ⟨fun pins s σ H Q I h => ?_⟩
  obtain ⟨hv, hn, hd⟩ := blt_boot hb
  refine wpAny_Call_Name_kw (ld_blt I (glB_ok (by rw [D.sco]; exact hg)) (by rw [D.mg]; exact D.fc.nog _ (blt_in hb)) hv ?_ hn hd)
  rcases blt_callee hb with ⟨id, hid⟩ | ⟨T, hT⟩
  · rw [hid] at h ⊢
    exact PyProof.Rows.callWith_builtin1 (thn (ha.run pos pins s σ H _ I h) fun us s1 ⟨vs, H1, I1, r1, q1⟩ => q1 pins s1 us I1 r1) (star_cons hs) (star_any hs2)
  · rw [hT] at h ⊢
    exact PyProof.Rows.callWith_type1 (thn (ha.run pos pins s σ H _ I h) fun us s1 ⟨vs, H1, I1, r1, q1⟩ => q1 pins s1 us I1 r1) (star_cons hs) (star_any hs2)
theorem FRs.rds {g : Gh} {H H0 : Hp} {m : Mem} {env : En} {σ : L2.St} (M : MR B g m H) (R : ER B g env σ H H0) : ∀ {rs : List RV} {vs : List V} {us : List W}, FRs B g env σ rs vs → reads env m rs = some us → RDs B g H us vs
  | [], vs, us, h, e => by
    cases e
    exact h
  | r :: rs, vs, us, h, e => by
    obtain ⟨v, vs', rfl, h1, h2⟩ := h
    simp only [reads] at e
    split at e
    · rename_i w ws hw hws
      cases e
      exact ⟨v, vs', rfl, h1.rd M R hw, FRs.rds M R h2 hws⟩
    · cases e
theorem deepFR {g : Gh} {H : Hp} {m : Mem} {env : En} {σ : L2.St} (M : MR B g m H) {k : Nat} {rv : RV} {w : W} {v : V} {d : PyData} (h : FR B g env σ rv v) (ew : deepR m rv = some w) (e : deepD m k w = some d) : Dq B.K H v d := by
  cases rv with
  | val u => simp only [deepR] at ew; cases ew; exact deepV M k _ _ _ h e
  | new ob => simp only [deepR] at ew; cases ew; exact deepV M k _ _ _ h e
  | own i => simp [deepR] at ew
theorem callS_of {f : Value} {σ : L2.St} {vs : List V} {H : Hp} {Q : VK} (h : cAny X f vs H Q) : callS X f σ vs H Q := fun pins s us I r => call_any pins s σ H vs us Q I r h
theorem bltG_ok {b : Blt} {rs : List RV} {vs : List V} {g g1 : Gh} {H H1 H0 : Hp} {m1 : Mem} {env : En} {σ : L2.St} {Q : VK} (D : Gd B sc X Wx n) (hb : b.plain = true) (M : MR B g1 m1 H1) (R : ER B g1 env σ H1 H0) (e : Ev g H g1 H1) (hr : FRs B g1 env σ rs vs)
    (h : OkG B g H (relR B env σ H) (bltG B.T (cfN B.T n) env b rs m1) Q (fun c d H' => Wx c d σ H')) : callS X b.callee σ vs H1 Q := by
  unfold bltG at h
  split at h
  · rename_i us hus
    have hrd := FRs.rds M R hr hus
    split at h
    · rename_i x c fs
      split at h
      · rename_i w hw
        obtain ⟨v, vs', rfl, hv, hnil⟩ := hr
        have hnil' : vs' = [] := hnil
        subst hnil'
        obtain ⟨v', us', hvv, hrv, _⟩ := hrd
        cases hvv
        obtain ⟨q, dx, vs2, rfl, hq, _⟩ := (hrv : RD B g1 H1 (.ins c fs) v)
        unfold callM at h
        split at h
        · rename_i f hf
          have h' : OkG B g H (relR B env σ H) ((cfN B.T n).call f [w] m1) (fun z H' => ∃ k : Int, z = .int k ∧ 0 ≤ k ∧ k < 2 ^ 62 ∧ Q (.int k) H') (fun c d H' => Wx c d σ H') := by
            refine OkG.bind Ev.refl h fun rv m2 g2 z H2 heq e2 e2' M2 r2 h2 => ?_
            unfold lenB at h2
            split at h2
            · rename_i k
              split at h2
              · rename_i hk
                cases r2
                exact ⟨k, rfl, hk.1, hk.2, h2 g2 _ H2 e2 M2 rfl⟩
              · exact h2.elim
            · exact h2.elim
          obtain ⟨np, nss, bd, hfn, hl⟩ := cf_fn h'
          obtain ⟨Mt, _⟩ := D.fc.mth c mLen f hf
          intro pins s us I ru
          rw [Vals.ref1 ru]
          obtain ⟨od, J⟩ := inst_of I hq
          obtain ⟨mF, hF⟩ := I.fr
          refine PySem.W.len_K hF I.ok.mod.kin J (by rw [D.K, ← D.fc.sp.2.2.2.2.2]; exact Mt.at_) (by rw [D.K]; exact Mt.fn) ?_
          refine wpAny_mono (call_okA (A := X.A.in1) D (by have := D.room.in1; exact this) D.gd rfl hfn M e (VRs.cons (hv.esc hw) VRs.nil) hl h' I (.cons rfl .nil)) (fun r s' z => ?_) fun _ _ x => x
          obtain ⟨z', H', I', rz, k, ek, k0, k1, qz⟩ := z
          subst ek
          obtain ⟨t, rfl⟩ := rz
          exact ⟨⟨k0, by omega⟩, ⟨.int k, H', I'.tok _, ⟨_, rfl⟩, qz⟩⟩
        · exact (h : False).elim
      · exact h.elim
    · obtain ⟨rv, e1, q⟩ := h.lift
      refine callS_of (bltV_ok (env := env) (σ := σ) D.K D.un D.gd D.calm (by rw [D.K]; exact D.fc.sm) M hrd (fun x v d hx hv hd => ?_) e1 (fun g' z H' e2 M2 r2 => q g' z H' (e.trans e2) M2 (r2.back e)) ⟨fun z => (by rw [z] at hb; cases hb), fun z => (by rw [z] at hb; cases hb)⟩)
      subst hv
      rename_i rs' us' _
      cases rs with
      | nil => cases hx
      | cons r rs2 =>
        obtain ⟨v', us2, hvv, hv', hrest⟩ := hr
        cases hvv
        cases rs2 with
        | cons _ _ =>
          obtain ⟨_, _, z, _⟩ := hrest
          cases z
        | nil =>
          simp only [deepRs] at hx
          split at hx
          · rename_i w hw
            cases hx
            exact deepFR M hv' hw hd
          · cases hx
  · exact h.elim
theorem e_blt {b : Blt} (D : Gd B sc X Wx n) (hb : b.plain = true) (hg : glB sc.scope b.nm = true) (ha : PA X (e :: xs) (tRs B (cfN B.T n) Wx es)) (hs : ns e = true) (hs2 : xs.all ns = true) :
    PEm B X Wx n (.Call (.Name b.nm p) (e :: xs) [] pos) (.blt b es) := PE.mono (pe_bltM D hb hg ha hs hs2) fun σ H Q h => by
  obtain ⟨g, env, m, H0, M, R, h⟩ := h
  simp only [evE] at h
  exact tRs_bind M R Ev.refl h fun rs m1 g1 vs H1 e1 e1' M1 R1 rv h1 => bltG_ok D hb M1 R1 e1 rv h1
/-! ### cells -/
theorem cell_red {σ : L2.St} {H : Hp} {Q : VK} (h : tE B (cfN B.T n) Wx (.cell a) σ H Q) : tE B (cfN B.T n) Wx a σ H Q := by
  obtain ⟨g, env, m, H0, M, R, h⟩ := h
  simp only [evE] at h
  refine tE_bind M R Ev.refl h fun rv m1 g1 v H1 he e1 e1' M1 R1 r h1 => ?_
  split at h1
  · rename_i o
    obtain ⟨ad, rfl, h2, h3, h4, h5⟩ := r
    have rk : ∃ t, (⟨g1.G, g1.ρ ++ [ad]⟩ : Gh).ρ = g1.ρ ++ t := ⟨[ad], rfl⟩
    have ev : Ev g H (⟨g1.G, g1.ρ ++ [ad]⟩ : Gh) H1 := by
      refine ⟨e1.gk, ?_, e1.gn, fun b hb => ?_, e1.fr, e1.dom⟩
      · obtain ⟨t, ht⟩ := e1.rk
        exact ⟨t ++ [ad], by show g1.ρ ++ [ad] = _; rw [ht, List.append_assoc]⟩
      · rcases List.mem_append.mp hb with z | z
        · exact e1.rn b z
        · rw [List.mem_singleton.mp z]
          exact .inr h5
    have mr : MR B (⟨g1.G, g1.ρ ++ [ad]⟩ : Gh) (m1 ++ [o]) H1 := by
      refine ⟨M1.sub, ?_, fun i ob b hi hb => ?_, ?_⟩
      · show (g1.ρ ++ [ad]).length = (m1 ++ [o]).length
        rw [List.length_append, List.length_append, M1.len]
        rfl
      · have hl : g1.ρ.length = m1.length := M1.len
        by_cases hlt : i < m1.length
        · rw [List.getElem?_append_left hlt] at hi
          have hb' : g1.ρ[i]? = some b := by
            have hb2 : (g1.ρ ++ [ad])[i]? = some b := hb
            rw [List.getElem?_append_left (by omega)] at hb2
            exact hb2
          obtain ⟨k1, k2⟩ := M1.cel i ob b hi hb'
          exact ⟨OR.up Gs.refl rk (fun _ z => z) k1, k2⟩
        · have hb2 : (g1.ρ ++ [ad])[i]? = some b := hb
          rw [List.getElem?_append_right (by omega)] at hi hb2
          have hi0 : i - m1.length = 0 := by
            cases q : i - m1.length with
            | zero => rfl
            | succ j => rw [q] at hi; simp at hi
          rw [hl] at hb2
          rw [hi0] at hi hb2
          simp at hi hb2
          subst hi hb2
          exact ⟨OR.up Gs.refl rk (fun _ z => z) h4, h2⟩
      · show (g1.ρ ++ [ad]).Nodup
        rw [List.nodup_append]
        exact ⟨M1.nd, by simp, fun x hx y hy z => by simp at hy; subst hy z; exact h3 hx⟩
    refine h1 _ (.ref ad) H1 ev mr ?_
    show VR B g1.G (g1.ρ ++ [ad]) (.cell m1.length) (.ref ad)
    simp only [VR]
    refine ⟨ad, ?_, rfl⟩
    rw [List.getElem?_append_right (by rw [M1.len]; exact Nat.le_refl _), M1.len]
    simp
  · exact h1.elim
theorem e_cell (ha : PEm B X Wx n e a) : PEm B X Wx n e (.cell a) := PE.mono ha fun σ H Q h => cell_red h
end
end Mi

set_option Elab.async false
set_option linter.all false
set_option maxRecDepth 100000
set_option maxHeartbeats 1000000
/-! Mi19: isinstance. -/
namespace Mi
open PySem PySem.Spec L2
open PyProof.Rows (Fr News envOfC)

def Ty.val (B : Tb) : Ty → Value
  | .int => .type "int" | .bool => .type "bool" | .str => .type "str" | .list => .type "list" | .tuple => .type "tuple" | .dict => .type "dict"
  | .cls c => .ref (B.cA c)
def Ty.v (B : Tb) : Ty → V
  | .int => .ty "int" | .bool => .ty "bool" | .str => .ty "str" | .list => .ty "list" | .tuple => .ty "tuple" | .dict => .ty "dict"
  | .cls c => .ref (B.cA c)
def Ty.nm (T : Pg) : Ty → Str
  | .int => "int" | .bool => "bool" | .str => "str" | .list => "list" | .tuple => "tuple" | .dict => "dict"
  | .cls c => T.cnm c
def Ty.ok (T : Pg) : Ty → Bool
  | .cls c => decide (T.cnm c ≠ Str.empty)
  | _ => true
section
variable {B : Tb} {X : Cx} {Wx : WX} {n : Nat} {sc : Sc} {pos p apos : Pos} {e ea eb ec : Expr} {a b c : E} {es : Es} {xs : List Expr} {x : Str}
theorem ty_vv (t : Ty) : RelV (t.v B) (t.val B) ∧ ClsV (t.v B) (t.val B) := by
  cases t <;> exact ⟨rfl, by constructor⟩
theorem kit_ok (D : Gd B sc X Wx n) {u : W} {t : Ty} (hu : isiB B.T u = true) (ht : t.ok B.T = true) : PySem.W.kitOne X.K (tyVal B u) (t.val B) = some (isTy B.T u t) := by
  rw [D.K]
  cases t with
  | cls d =>
    have hd : B.T.cnm d ≠ Str.empty := by simpa [Ty.ok] using ht
    have hT := D.fc.kitT d hd
    cases u with
    | ins c fs =>
      obtain ⟨i, hi⟩ := Option.isSome_iff_exists.mp (show (B.T.ini c).isSome = true from hu)
      exact D.fc.kit c d i hi hd
    | exc c fs => cases hu
    | cell i => cases hu
    | non => exact hT "NoneType" (by simp)
    | bl b => exact hT "bool" (by simp)
    | int b => exact hT "int" (by simp)
    | str b => exact hT "str" (by simp)
    | tup b => exact hT "tuple" (by simp)
    | lst b => exact hT "list" (by simp)
    | scr b => exact hT "list" (by simp)
    | dct _ _ _ => exact hT "dict" (by simp)
  | _ =>
    cases u with
    | ins c fs =>
      obtain ⟨i, hi⟩ := Option.isSome_iff_exists.mp (show (B.T.ini c).isSome = true from hu)
      exact (D.fc.isi c i hi).2.2 _ (by simp)
    | exc c fs => cases hu
    | cell i => cases hu
    | _ => first | exact kit_ty (r := false) (by decide +kernel) | exact kit_ty (r := true) (by decide +kernel)
theorem kits_ok (D : Gd B sc X Wx n) {u : W} (hu : isiB B.T u = true) : ∀ {ts : List Ty}, (ts.all fun t => t.ok B.T) = true → PySem.W.kitAny X.K (tyVal B u) (ts.map fun t => t.val B) = some (ts.any (isTy B.T u))
  | [], _ => rfl
  | t :: ts, h => by
    simp only [List.all_cons, Bool.and_eq_true] at h
    refine kitAny_cons (kit_ok D hu h.1) (fun z => ?_) fun z => ?_
    · rw [kits_ok D hu h.2, List.any_cons, z]
      rfl
    · rw [List.any_cons, z]
      rfl
/-- a class's name -/
def tyB (T : Pg) (sc : Scope) (t : Ty) : Expr → Bool
  | .Name x _ => decide (x = t.nm T) && glB sc x && t.ok T
  | _ => false
theorem ty_boot {t : Ty} : (∀ c, t ≠ .cls c) → bootBuiltins (t.nm B.T) = some (t.val B) ∧ t.nm B.T ∈ bltNames ∧ t.nm B.T ≠ "__name__" ∧ (t.nm B.T == ("__debug__" : Str)) = false := by
  intro h
  cases t with
  | cls c => exact absurd rfl (h c)
  | int => exact ⟨PyProof.Rows.boot_int, by show ("int" : Str) ∈ bltNames; decide +kernel, by show ("int" : Str) ≠ _; decide +kernel, by show (("int" : Str) == _) = _; decide +kernel⟩
  | bool => exact ⟨PyProof.Rows.boot_bool, by show ("bool" : Str) ∈ bltNames; decide +kernel, by show ("bool" : Str) ≠ _; decide +kernel, by show (("bool" : Str) == _) = _; decide +kernel⟩
  | str => exact ⟨PyProof.Rows.boot_str, by show ("str" : Str) ∈ bltNames; decide +kernel, by show ("str" : Str) ≠ _; decide +kernel, by show (("str" : Str) == _) = _; decide +kernel⟩
  | list => exact ⟨PyProof.Rows.boot_list, by show ("list" : Str) ∈ bltNames; decide +kernel, by show ("list" : Str) ≠ _; decide +kernel, by show (("list" : Str) == _) = _; decide +kernel⟩
  | tuple => exact ⟨PyProof.Rows.boot_tuple, by show ("tuple" : Str) ∈ bltNames; decide +kernel, by show ("tuple" : Str) ≠ _; decide +kernel, by show (("tuple" : Str) == _) = _; decide +kernel⟩
  | dict => exact ⟨PyProof.Rows.boot_dict, by show ("dict" : Str) ∈ bltNames; decide +kernel, by show ("dict" : Str) ≠ _; decide +kernel, by show (("dict" : Str) == _) = _; decide +kernel⟩
theorem pe_ty {t : Ty} (D : Gd B sc X Wx n) (h : tyB B.T sc.scope t e = true) : PE X e (tC (t.v B)) ∧ ns e = true := by
  unfold tyB at h
  split at h
  · rename_i x p
    simp only [Bool.and_eq_true, decide_eq_true_eq] at h
    obtain ⟨⟨rfl, hg⟩, ht⟩ := h
    refine ⟨?_, rfl⟩
    have hG : Gl X (t.nm B.T) := glB_ok (by rw [D.sco]; exact hg)
    by_cases hc : ∃ c, t = .cls c
    · obtain ⟨c, rfl⟩ := hc
      obtain ⟨h1, h2⟩ := D.fc.cnm c (by simpa [Ty.ok] using ht)
      exact pe_glob hG (by rw [D.mg]; exact h1) (ty_vv (.cls c)).1 h2
    · obtain ⟨h1, h2, h3, h4⟩ := ty_boot (B := B) (t := t) fun c z => hc ⟨c, z⟩
      exact pe_bltn hG (by rw [D.mg]; exact D.fc.nog _ h2) h1 (ty_vv t).1 h3 h4
  · cases h
def tysB (T : Pg) (sc : Scope) : List Ty → List Expr → Bool
  | [], [] => true
  | t :: ts, e :: es => tyB T sc t e && tysB T sc ts es
  | _, _ => false
def tCs (vs : List V) : TA := fun _ H Q => Q vs H
theorem pa_tys (D : Gd B sc X Wx n) : ∀ {ts : List Ty} {es : List Expr}, tysB B.T sc.scope ts es = true → PA X es (tCs (ts.map fun t => t.v B)) ∧ (ts.all fun t => t.ok B.T) = true
  | [], [], _ => ⟨PA.mono pa_nil fun _ _ _ h => h, rfl⟩
  | [], _ :: _, h => by cases h
  | _ :: _, [], h => by cases h
  | t :: ts, e :: es, h => by
    have h' : (tyB B.T sc.scope t e && tysB B.T sc.scope ts es) = true := h
    simp only [Bool.and_eq_true] at h'
    obtain ⟨i1, i2⟩ := pe_ty D h'.1
    obtain ⟨i3, i4⟩ := pa_tys D h'.2
    refine ⟨PA.mono (pa_cons i1 i3 (star_cons i2)) fun _ _ _ h => h, ?_⟩
    simp only [List.all_cons, Bool.and_eq_true]
    refine ⟨?_, i4⟩
    have h1 := h'.1
    unfold tyB at h1
    split at h1
    · simp only [Bool.and_eq_true] at h1
      exact h1.2
    · cases h1
theorem clsVs (ts : List Ty) : Paired ClsV (ts.map fun t => t.v B) (ts.map fun t => t.val B) := by
  induction ts with
  | nil => exact .nil
  | cons t ts ih => exact .cons (ty_vv t).2 ih
theorem pe_isiM {t : TA} (D : Gd B sc X Wx n) (hg : glB sc.scope "isinstance" = true) (ha : PA X (e :: xs) t) (hs : ns e = true) (hs2 : xs.all ns = true) :
    PE X (.Call (.Name "isinstance" p) (e :: xs) [] pos) (tCallS' X (.builtin "isinstance") t) := by
  refine ⟨fun pins s σ H Q I h => ?_⟩
  refine wpAny_Call_Name_kw (ld_blt I (glB_ok (by rw [D.sco]; exact hg)) (by rw [D.mg]; exact D.fc.nog _ (by decide +kernel)) (PyProof.Rows.boot_isinstance) ?_ (by decide +kernel) (by decide +kernel))
  exact PyProof.Rows.callWith_builtin1 (thn (ha.run pos pins s σ H _ I h) fun us s1 ⟨vs, H1, I1, r1, q1⟩ => q1 pins s1 us I1 r1) (star_cons hs) (star_any hs2)
theorem e_isi1 {t : Ty} (D : Gd B sc X Wx n) (hg : glB sc.scope "isinstance" = true) (ha : PEm B X Wx n ea a) (ht : tyB B.T sc.scope t eb = true) (hs : ns ea = true) :
    PEm B X Wx n (.Call (.Name "isinstance" p) [ea, eb] [] pos) (.isin a [t]) := by
  obtain ⟨h1, h2⟩ := pe_ty D ht
  have htk : t.ok B.T = true := by
    unfold tyB at ht
    split at ht
    · simp only [Bool.and_eq_true] at ht
      exact ht.2
    · cases ht
  refine PE.mono (pe_isiM D hg (pa_cons ha (pa_cons h1 pa_nil (star_cons h2)) (star_cons hs)) hs (by simp [h2])) fun σ H Q h => ?_
  obtain ⟨g, env, m, H0, M, R, h⟩ := h
  simp only [evE] at h
  refine tE_bindF M R Ev.refl h fun rx m1 g1 x H1 he e1 e1' M1 R1 fx h1 => ?_
  split at h1
  · rename_i u hu
    split at h1
    · rename_i hb
      have hr := fx.rd M1 R1 hu
      refine callS_of ⟨_, call_isi, x, t.v B, tyVal B u, t.val B, isTy B.T u t, rfl, (ty_vv t).2, tyX_of D M1 hr (fun c fs z => by subst z; cases hb) (fun c fs z => by subst z; exact hb), kit_ok D hb htk, ?_⟩
      have := h1 g1 (.bl ([t].any (isTy B.T u))) H1 e1 M1 rfl
      simpa using this
    · exact h1.elim
  · exact h1.elim
theorem e_isiT {ts : List Ty} {k : Nat} {p2 : Pos} (D : Gd B sc X Wx n) (hg : glB sc.scope "isinstance" = true) (ha : PEm B X Wx n ea a) (ht : tysB B.T sc.scope ts xs = true) (hs : ns ea = true) (hz : ts.length ≤ 100) :
    PEm B X Wx n (.Call (.Name "isinstance" p) [ea, .Tuple xs k p2] [] pos) (.isin a ts) := by
  obtain ⟨h1, h2⟩ := pa_tys D ht
  refine PE.mono (pe_isiM D hg (pa_cons ha (pa_cons (pe_tup h1) pa_nil (star_cons rfl)) (star_cons hs)) hs rfl) fun σ H Q h => ?_
  obtain ⟨g, env, m, H0, M, R, h⟩ := h
  simp only [evE] at h
  refine tE_bindF M R Ev.refl h fun rx m1 g1 x H1 he e1 e1' M1 R1 fx h1 => ?_
  refine ⟨by rw [List.length_map, sizeLine_eq]; omega, fun q hq => ?_⟩
  split at h1
  · rename_i u hu
    split at h1
    · rename_i hb
      have M2 := MR.new (o := .tup (ts.map fun t => t.v B)) M1 hq
      have e2 : Ev g1 H1 g1 (upd H1 q (.tup (ts.map fun t => t.v B))) := Ev.new hq
      have hr := fx.rd M2 (R1.ev e2) hu
      exact callS_of ⟨_, call_isiT, x, q, _, tyVal B u, _, ts.any (isTy B.T u), rfl, upd_same, clsVs ts, tyX_of D M2 hr (fun c fs z => by subst z; cases hb) (fun c fs z => by subst z; exact hb), kits_ok D hb h2, h1 g1 _ _ (e1.trans e2) M2 rfl⟩
    · exact h1.elim
  · exact h1.elim
end
end Mi

set_option Elab.async false
set_option linter.all false
set_option maxRecDepth 100000
set_option maxHeartbeats 1000000
/-! Mi20: what is walked; targets. -/
namespace Mi
open PySem PySem.Spec L2
open PyProof.Rows (Fr News envOfC)

/-! ### targets -/
section
variable {B : Tb} {X : Cx} {Wx : WX} {n : Nat} {sc : Sc} {pos : Pos}
/-- a name is set to a value -/
theorem ER.setVal {g : Gh} {env : List Sl} {σ : List (Option V)} {H H0 : Hp} {i : Nat} {w : W} {v : V} (R : ER B g env σ H H0) (hi : i < env.length) (hv : VR B g.G g.ρ w v) : ER B g (env.set i (.val w)) (σ.set i (some v)) H H0 where
  len := by rw [List.length_set, List.length_set]; exact R.len
  val := fun j x e => by
    by_cases hj : i = j
    · subst hj
      rw [List.getElem?_set_self hi] at e
      cases e
      exact ⟨v, List.getElem?_set_self (by rw [← R.len]; exact hi), hv⟩
    · rw [List.getElem?_set_ne hj] at e ⊢
      exact R.val j x e
  own := fun j x e => by
    by_cases hj : i = j
    · subst hj
      rw [List.getElem?_set_self hi] at e
      cases e
    · rw [List.getElem?_set_ne hj] at e ⊢
      exact R.own j x e
  ond := fun j k oj ok a e1 e2 s1 s2 => by
    by_cases hj : i = j
    · subst hj
      rw [List.getElem?_set_self hi] at e1
      cases e1
    · by_cases hk : i = k
      · subst hk
        rw [List.getElem?_set_self hi] at e2
        cases e2
      · rw [List.getElem?_set_ne hj] at e1 s1
        rw [List.getElem?_set_ne hk] at e2 s2
        exact R.ond j k oj ok a e1 e2 s1 s2
  slf := fun j c fs b e1 e2 => by
    by_cases hj : i = j
    · subst hj
      rw [List.getElem?_set_self hi] at e1
      cases e1
    · rw [List.getElem?_set_ne hj] at e1 e2
      exact R.slf j c fs b e1 e2
theorem ER.setNo {g : Gh} {env : List Sl} {σ : List (Option V)} {H H0 : Hp} {i : Nat} {o : Option V} (R : ER B g env σ H H0) : ER B g (env.set i .no) (σ.set i o) H H0 where
  len := by rw [List.length_set, List.length_set]; exact R.len
  val := fun j x e => by
    by_cases hj : i = j
    · subst hj
      by_cases hi : i < env.length
      · rw [List.getElem?_set_self hi] at e
        cases e
      · rw [List.getElem?_eq_none (by rw [List.length_set]; omega)] at e
        cases e
    · rw [List.getElem?_set_ne hj] at e ⊢
      exact R.val j x e
  own := fun j x e => by
    by_cases hj : i = j
    · subst hj
      by_cases hi : i < env.length
      · rw [List.getElem?_set_self hi] at e
        cases e
      · rw [List.getElem?_eq_none (by rw [List.length_set]; omega)] at e
        cases e
    · rw [List.getElem?_set_ne hj] at e ⊢
      exact R.own j x e
  ond := fun j k oj ok a e1 e2 s1 s2 => by
    have aux : ∀ j oj, (env.set i Sl.no)[j]? = some (Sl.own oj) → i ≠ j := fun j oj e z => by
      subst z
      by_cases hi : i < env.length
      · rw [List.getElem?_set_self hi] at e
        cases e
      · rw [List.getElem?_eq_none (by rw [List.length_set]; omega)] at e
        cases e
    have hj := aux j oj e1
    have hk := aux k ok e2
    rw [List.getElem?_set_ne hj] at e1 s1
    rw [List.getElem?_set_ne hk] at e2 s2
    exact R.ond j k oj ok a e1 e2 s1 s2
  slf := fun j c fs b e1 e2 => by
    by_cases hj : i = j
    · subst hj
      by_cases hi : i < env.length
      · rw [List.getElem?_set_self hi] at e1
        cases e1
      · rw [List.getElem?_eq_none (by rw [List.length_set]; omega)] at e1
        cases e1
    · rw [List.getElem?_set_ne hj] at e1 e2
      exact R.slf j c fs b e1 e2
theorem ER.wipe {g : Gh} {env : List Sl} {σ : List (Option V)} {H H0 : Hp} (R : ER B g env σ H H0) : ∀ vs : List Nat, ER B g (wipeE env vs) (L2.wipe σ vs) H H0
  | [] => R
  | v :: vs => (R.wipe vs).setNo
theorem wipe_set {σ : L2.St} {i : Nat} {o : Option V} : ∀ {vs : List Nat}, i ∈ vs → L2.wipe (σ.set i o) vs = L2.wipe σ vs
  | v :: vs, h => by
    show (L2.wipe (σ.set i o) vs).set v none = (L2.wipe σ vs).set v none
    rcases List.mem_cons.mp h with rfl | h
    · have : ∀ us : List Nat, (L2.wipe (σ.set i o) us).set i none = (L2.wipe σ us).set i none := by
        intro us
        induction us with
        | nil => show (σ.set i o).set i none = σ.set i none; rw [List.set_set]
        | cons u us ih =>
          show ((L2.wipe (σ.set i o) us).set u none).set i none = ((L2.wipe σ us).set u none).set i none
          by_cases hu : u = i
          · subst hu
            rw [ih]
          · rw [List.set_comm _ _ hu, ih, List.set_comm _ _ (Ne.symm hu)]
      exact this vs
    · rw [wipe_set h]
def Tg.slots : Tg → List Nat | .n i => [i] | .t is => is
/-- a target's reading -/
def gB (B : Tb) (tg : Tg) : TG := fun v σ H Q => ∃ g env m H0 w env', MR B g m H ∧ ER B g env σ H H0 ∧ VR B g.G g.ρ w v ∧ bindT tg w env = some env' ∧
  ∀ σ', ER B g env' σ' H H0 → (∀ vs, (∀ i ∈ tg.slots, i ∈ vs) → L2.wipe σ' vs = L2.wipe σ vs) → Q σ' H
/-- a name that is stored -/
def nameB (sc : Sc) (i : Nat) : Expr → Bool
  | .Name x _ => decide (sc.N[i]? = some x) && locB sc x
  | _ => false
theorem loc_ok {x : Str} (D : Gd B sc X Wx n) (h : locB sc x = true) : Loc X.env.scope x ∧ (X.fn x = true ∨ X.env.scope.names.lookup x = some .local) := by
  unfold locB at h
  rw [D.sco, D.fnn]
  split at h
  · rename_i e
    exact ⟨.inl e, .inr e⟩
  · rename_i e
    exact ⟨.inr e, .inl h⟩
  · cases h
theorem name_ok {e : Expr} {i : Nat} (D : Gd B sc X Wx n) (h : nameB sc i e = true) : PG X e (gName i) := by
  unfold nameB at h
  split at h
  · rename_i x p
    simp only [Bool.and_eq_true, decide_eq_true_eq] at h
    obtain ⟨h1, h2⟩ := loc_ok D h.2
    exact pg_name D.nd (by rw [D.N]; exact h.1) h1 h2
  · cases h
def namesB (sc : Sc) : List Nat → List Expr → Bool
  | [], [] => true
  | i :: is, e :: es => nameB sc i e && namesB sc is es
  | _, _ => false
theorem name_ns {e : Expr} {i : Nat} (h : nameB sc i e = true) : ns e = true := by
  unfold nameB at h
  split at h
  · rfl
  · cases h
theorem assign_cons {e : Expr} {es : List Expr} {env : Env} (h : ns e = true) : assignEach (e :: es) env = (false, assign e env) :: assignEach es env := by
  cases e <;> first | rfl | (simp [ns] at h)
/-- several names -/
def gNms : List Nat → TGs
  | [] => gNil
  | i :: is => gCons (gName i) (gNms is)
theorem names_ok (D : Gd B sc X Wx n) : ∀ {is : List Nat} {es : List Expr}, namesB sc is es = true → PGs X es (gNms is) ∧ (assignEach es X.env).length = is.length ∧ (assignEach es X.env).findIdx? (·.1) = none
  | [], [], _ => ⟨pgs_nil, rfl, rfl⟩
  | [], _ :: _, h => by cases h
  | _ :: _, [], h => by cases h
  | i :: is, e :: es, h => by
    have h' : (nameB sc i e && namesB sc is es) = true := h
    simp only [Bool.and_eq_true] at h'
    obtain ⟨i1, i2, i3⟩ := names_ok D h'.2
    have hc := assign_cons (es := es) (env := X.env) (name_ns h'.1)
    refine ⟨pgs_cons (name_ok D h'.1) i1 (by rw [hc]; rfl), by rw [hc, List.length_cons, List.length_cons, i2], ?_⟩
    rw [hc, List.findIdx?_cons]
    simp [i3]
theorem sets_ok {g : Gh} {H H0 : Hp} : ∀ {is : List Nat} {ws : List W} {vs : List V} {env : List Sl} {σ : L2.St} {Q : L2.St → Hp → Prop}, ER B g env σ H H0 → VRs B g.G g.ρ ws vs → ws.length = is.length → (∀ i ∈ is, i < env.length) →
    (∀ σ', ER B g ((is.zip ws).foldl (fun e p => e.set p.1 (.val p.2)) env) σ' H H0 → (∀ us, (∀ i ∈ is, i ∈ us) → L2.wipe σ' us = L2.wipe σ us) → Q σ' H) → gNms is vs σ H Q
  | [], ws, vs, env, σ, Q, R, hv, hl, hi, k => by
    have : ws = [] := List.eq_nil_of_length_eq_zero (by simpa using hl)
    subst this
    exact ⟨hv.zero, k σ R fun _ _ => rfl⟩
  | i :: is, [], vs, env, σ, Q, R, hv, hl, hi, k => by simp at hl
  | i :: is, w :: ws, vs, env, σ, Q, R, hv, hl, hi, k => by
    simp only [VRs] at hv
    obtain ⟨u, us, rfl, h1, h2⟩ := hv
    refine ⟨u, us, rfl, ?_⟩
    refine sets_ok (R.setVal (hi i (List.mem_cons_self ..)) h1) h2 (by simpa using hl) (fun j hj => by rw [List.length_set]; exact hi j (List.mem_cons_of_mem _ hj)) fun σ' R' hw => k σ' R' fun us' hus => ?_
    rw [hw us' fun j hj => hus j (List.mem_cons_of_mem _ hj), wipe_set (hus i (List.mem_cons_self ..))]
def tgB (sc : Sc) : Tg → Expr → Bool
  | .n i, e => nameB sc i e
  | .t is, .Tuple es _ _ => namesB sc is es
  | _, _ => false
theorem tg_ok {tg : Tg} {e : Expr} (D : Gd B sc X Wx n) (h : tgB sc tg e = true) : PG X e (gB B tg) := by
  cases tg with
  | n i =>
    refine PG.mono (name_ok D h) fun v σ H Q hq => ?_
    obtain ⟨g, env, m, H0, w, env', M, R, hv, hb, k⟩ := hq
    simp only [bindT] at hb
    split at hb
    · rename_i hi
      cases hb
      exact k _ (R.setVal hi hv) fun vs hvs => wipe_set (hvs i (List.mem_singleton.mpr rfl))
    · cases hb
  | t is =>
    cases e <;> first | (cases h; done) | skip
    · rename_i es k p
      obtain ⟨h1, h2, h3⟩ := names_ok D h
      refine PG.mono (pg_tup D.calm h1 h2 h3) fun v σ H Q hq => ?_
      obtain ⟨g, env, m, H0, w, env', M, R, hv, hb, k⟩ := hq
      simp only [bindT] at hb
      split at hb
      · rename_i xs
        split at hb
        · rename_i hc
          cases hb
          simp only [VR] at hv
          obtain ⟨a, vs, rfl, qa, ra⟩ := hv
          refine ⟨a, vs, rfl, by rw [D.K]; exact SqT.mr M qa, by rw [← ra.length]; exact hc.1, ?_⟩
          exact sets_ok R ra hc.1 hc.2 fun σ' R' hw => k σ' R' hw
        · cases hb
      · cases hb
end
end Mi

set_option Elab.async false
set_option linter.all false
set_option maxRecDepth 100000
set_option maxHeartbeats 1000000
/-! Mi21: iterators. -/
namespace Mi
open PySem PySem.Spec L2
open PyProof.Rows (Fr News envOfC)

/-- what stays: frozen things, the cells' places -/
structure Gk (g g' : Gh) : Prop where
  gk : Gs g.G g'.G
  rk : ∃ t, g'.ρ = g.ρ ++ t
theorem Ev.gk' {g g' : Gh} {H H' : Hp} (e : Ev g H g' H') : Gk g g' := ⟨e.gk, e.rk⟩
theorem Gk.refl {g : Gh} : Gk g g := ⟨Gs.refl, [], by simp⟩
theorem Gk.trans {g g' g'' : Gh} (a : Gk g g') (b : Gk g' g'') : Gk g g'' := ⟨a.gk.trans b.gk, by
  obtain ⟨t, e⟩ := a.rk
  obtain ⟨u, e2⟩ := b.rk
  exact ⟨t ++ u, by rw [e2, e, List.append_assoc]⟩⟩
/-- a walk over xs, as the small language sees it -/
structure Wk (B : Tb) (g1 : Gh) (J : L2.It) (xs : List W) (src : Src) : Prop where
  goes : ∀ i g2 m2 H2, Gk g1 g2 → MR B g2 m2 H2 → okSrc src m2 = true → i < xs.length → J.go i H2
  stops : ∀ g2 m2 H2, Gk g1 g2 → MR B g2 m2 H2 → okSrc src m2 = true → J.stop xs.length H2
  yields : ∀ i g2 m2 H2 x H3, Gk g1 g2 → MR B g2 m2 H2 → okSrc src m2 = true → i < xs.length → J.yld i H2 x H3 → ∃ g3 w, Ev g2 H2 g3 H3 ∧ MR B g3 m2 H3 ∧ xs[i]? = some w ∧ VR B g3.G g3.ρ w x
abbrev relJ (B : Tb) : Gh → Hp → (List W × Src) → L2.It → Prop := fun g' _ p J => Wk B g' J p.1 p.2
def tI (B : Tb) (cf : CF) (Wx : WX) (it : Mi.It) : TI := fun σ H R => ∃ g env m H0, MR B g m H ∧ ER B g env σ H H0 ∧ OkG B g H (relJ B) (evI B.T cf env it m) R (fun c d H' => Wx c d σ H')

section
variable {B : Tb} {X : Cx} {Wx : WX} {n : Nat} {sc : Sc} {pos p apos : Pos} {e ea eb ec tg : Expr} {a b c : E} {g : Gh} {H : Hp} {m : Mem}
theorem wk_list {ad : Addr} {xs : List W} {vs : List V} (h : g.G ad = some (.lst vs)) (hv : VRs B g.G g.ρ xs vs) : Wk B g (Itl B.K ad) xs none where
  goes := fun i g2 m2 H2 k M _ hi => ⟨vs, vs[i]'(by rw [← hv.length]; exact hi), SqL.of (M.ex (k.gk.ex h)), List.getElem?_eq_getElem _⟩
  stops := fun g2 m2 H2 k M _ => ⟨vs, SqL.of (M.ex (k.gk.ex h)), by rw [hv.length]; exact Nat.le_refl _⟩
  yields := fun i g2 m2 H2 x H3 k M _ hi y => by
    obtain ⟨rfl, y2⟩ := y
    have hx := y2 vs (SqL.of (M.ex (k.gk.ex h)))
    obtain ⟨v, hv1, hv2⟩ := (VRs.up k.gk k.rk _ _ hv).get (List.getElem?_eq_getElem hi)
    rw [hx] at hv1
    cases hv1
    exact ⟨g2, _, Ev.refl, M, List.getElem?_eq_getElem hi, hv2⟩
theorem wk_cell {ad : Addr} {i0 : Nat} {xs : List W} (h : g.ρ[i0]? = some ad) : Wk B g (Itl B.K ad) xs (some (i0, .lst xs)) where
  goes := fun i g2 m2 H2 k M hs hi => by
    have hs' : m2[i0]? = some (.lst xs) := by simpa [okSrc] using hs
    obtain ⟨⟨vs, q, r⟩, _⟩ := M.cel i0 _ ad hs' (pre_get k.rk h)
    exact ⟨vs, vs[i]'(by rw [← r.length]; exact hi), SqL.of q, List.getElem?_eq_getElem _⟩
  stops := fun g2 m2 H2 k M hs => by
    have hs' : m2[i0]? = some (.lst xs) := by simpa [okSrc] using hs
    obtain ⟨⟨vs, q, r⟩, _⟩ := M.cel i0 _ ad hs' (pre_get k.rk h)
    exact ⟨vs, SqL.of q, by rw [r.length]; exact Nat.le_refl _⟩
  yields := fun i g2 m2 H2 x H3 k M hs hi y => by
    have hs' : m2[i0]? = some (.lst xs) := by simpa [okSrc] using hs
    obtain ⟨⟨vs, q, r⟩, _⟩ := M.cel i0 _ ad hs' (pre_get k.rk h)
    obtain ⟨rfl, y2⟩ := y
    have hx := y2 vs (SqL.of q)
    obtain ⟨v, hv1, hv2⟩ := r.get (List.getElem?_eq_getElem hi)
    rw [hx] at hv1
    cases hv1
    exact ⟨g2, _, Ev.refl, M, List.getElem?_eq_getElem hi, hv2⟩
theorem wk_tup {ad : Addr} {xs : List W} {vs : List V} (h : SqT B.K g.G ad vs) (hv : VRs B g.G g.ρ xs vs) : Wk B g (Itt B.K ad) xs none where
  goes := fun i g2 m2 H2 k M _ hi => ⟨vs, vs[i]'(by rw [← hv.length]; exact hi), SqT.mr M (SqT.up k.gk h), List.getElem?_eq_getElem _⟩
  stops := fun g2 m2 H2 k M _ => ⟨vs, SqT.mr M (SqT.up k.gk h), by rw [hv.length]; exact Nat.le_refl _⟩
  yields := fun i g2 m2 H2 x H3 k M _ hi y => by
    obtain ⟨rfl, y2⟩ := y
    have hx := y2 vs (SqT.mr M (SqT.up k.gk h))
    obtain ⟨v, hv1, hv2⟩ := (VRs.up k.gk k.rk _ _ hv).get (List.getElem?_eq_getElem hi)
    rw [hx] at hv1
    cases hv1
    exact ⟨g2, _, Ev.refl, M, List.getElem?_eq_getElem hi, hv2⟩
theorem wk_str {z : Str} : Wk B g (Its z) (signs z) none where
  goes := fun i g2 m2 H2 k M _ hi => by
    show i < z.cps.size
    simpa [signs] using hi
  stops := fun g2 m2 H2 k M _ => by
    show z.cps.size ≤ (signs z).length
    simp [signs]
  yields := fun i g2 m2 H2 x H3 k M _ hi y => by
    obtain ⟨rfl, c, hc, rfl⟩ := y
    refine ⟨g2, .str ⟨#[c]⟩, Ev.refl, M, ?_, rfl⟩
    unfold signs
    rw [List.getElem?_map, Array.getElem?_toList, hc]
    rfl
theorem wk_rng {lo hi : Int} : Wk B g (Itr lo (hi - lo).toNat) (rngL lo hi) none where
  goes := fun i g2 m2 H2 k M _ h => by
    show i < (hi - lo).toNat
    simpa [rngL] using h
  stops := fun g2 m2 H2 k M _ => by
    show (hi - lo).toNat ≤ (rngL lo hi).length
    simp [rngL]
  yields := fun i g2 m2 H2 x H3 k M _ h y => by
    obtain ⟨rfl, rfl⟩ := y
    refine ⟨g2, .int (lo + i), Ev.refl, M, ?_, rfl⟩
    unfold rngL at h ⊢
    rw [List.length_map, List.length_range] at h
    rw [List.getElem?_map, List.getElem?_range h]
    rfl
theorem wk_rngC {lo c : Int} {k0 : Nat} : Wk B g (Itc lo c k0) (rngC lo c k0) none where
  goes := fun i g2 m2 H2 k M _ h => by
    show i < k0
    simpa [rngC] using h
  stops := fun g2 m2 H2 k M _ => by
    show k0 ≤ (rngC lo c k0).length
    simp [rngC]
  yields := fun i g2 m2 H2 x H3 k M _ h y => by
    obtain ⟨rfl, rfl⟩ := y
    refine ⟨g2, .int (lo + (i : Nat) * c), Ev.refl, M, ?_, rfl⟩
    unfold rngC at h ⊢
    rw [List.length_map, List.length_range] at h
    rw [List.getElem?_map, List.getElem?_range h]
    rfl
theorem enumL_get : ∀ {xs : List W} {j i : Nat}, (enumL j xs)[i]? = (xs[i]?).map fun w => .tup [.int ((j + i : Nat) : Int), w]
  | [], j, i => by simp [enumL]
  | x :: xs, j, 0 => by simp [enumL]
  | x :: xs, j, i + 1 => by
    simp only [enumL, List.getElem?_cons_succ, enumL_get (xs := xs)]
    congr 1
    funext w
    congr 4
    omega
theorem enumL_len : ∀ {xs : List W} {j : Nat}, (enumL j xs).length = xs.length
  | [], _ => rfl
  | x :: xs, j => by simp [enumL, enumL_len (xs := xs)]
/-- a new pair -/
theorem pair_ok {g2 : Gh} {m2 : Mem} {H2 : Hp} {T : Addr} {u w : W} {x y : V} (M : MR B g2 m2 H2) (hT : H2 T = none) (h1 : VR B g2.G g2.ρ u x) (h2 : VR B g2.G g2.ρ w y) :
    ∃ g3, Ev g2 H2 g3 (upd H2 T (.tup [x, y])) ∧ MR B g3 m2 (upd H2 T (.tup [x, y])) ∧ VR B g3.G g3.ρ (.tup [u, w]) (.ref T) := by
  refine ⟨_, Ev.pure M hT, MR.pure M hT, ?_⟩
  simp only [VR]
  exact ⟨T, [x, y], rfl, .inl (.inl upd_same), VRs.up (Ev.pure (o := .tup [x, y]) M hT).gk ⟨[], by simp [Gh.frz]⟩ _ _ (VRs.cons h1 (VRs.cons h2 VRs.nil))⟩
theorem wk_enum {ad : Addr} {xs : List W} {vs : List V} (h : g.G ad = some (.lst vs)) (hv : VRs B g.G g.ρ xs vs) : Wk B g (Ite B.K ad) (enumL 0 xs) none where
  goes := fun i g2 m2 H2 k M _ hi => by
    rw [enumL_len] at hi
    exact ⟨vs, vs[i]'(by rw [← hv.length]; exact hi), SqL.of (M.ex (k.gk.ex h)), List.getElem?_eq_getElem _⟩
  stops := fun g2 m2 H2 k M _ => ⟨vs, SqL.of (M.ex (k.gk.ex h)), by rw [enumL_len, hv.length]; exact Nat.le_refl _⟩
  yields := fun i g2 m2 H2 x H3 k M _ hi y => by
    rw [enumL_len] at hi
    obtain ⟨T, z, rfl, hT, rfl, y2⟩ := y
    have hx := y2 vs (SqL.of (M.ex (k.gk.ex h)))
    obtain ⟨v, hv1, hv2⟩ := (VRs.up k.gk k.rk _ _ hv).get (List.getElem?_eq_getElem hi)
    rw [hx] at hv1
    cases hv1
    obtain ⟨g3, e3, M3, r3⟩ := pair_ok (u := .int ((0 + i : Nat) : Int)) (x := .int (i : Nat)) M hT (by rw [Nat.zero_add]; rfl) hv2
    exact ⟨g3, _, e3, M3, by rw [enumL_get, List.getElem?_eq_getElem hi]; rfl, r3⟩
theorem zipL_get : ∀ {xs ys : List W} {i : Nat}, (zipL xs ys)[i]? = match xs[i]?, ys[i]? with | some x, some y => some (.tup [x, y]) | _, _ => none
  | [], ys, i => by simp [zipL]
  | x :: xs, [], i => by cases h : (x :: xs)[i]? <;> simp [zipL, h]
  | x :: xs, y :: ys, 0 => by simp [zipL]
  | x :: xs, y :: ys, i + 1 => by simp only [zipL, List.getElem?_cons_succ, zipL_get (xs := xs)]
theorem zipL_len : ∀ {xs ys : List W}, (zipL xs ys).length = min xs.length ys.length
  | [], ys => by simp [zipL]
  | x :: xs, [] => by simp [zipL]
  | x :: xs, y :: ys => by simp only [zipL, List.length_cons, zipL_len (xs := xs)]; omega
theorem wk_zip {a1 a2 : Addr} {xs ys : List W} {vs us : List V} (h : g.G a1 = some (.lst vs)) (hv : VRs B g.G g.ρ xs vs) (h' : g.G a2 = some (.lst us)) (hu : VRs B g.G g.ρ ys us) : Wk B g (Itz B.K a1 a2) (zipL xs ys) none where
  goes := fun i g2 m2 H2 k M _ hi => by
    rw [zipL_len] at hi
    have l1 := hv.length
    have l2 := hu.length
    exact ⟨vs, us, vs[i]'(by omega), us[i]'(by omega), SqL.of (M.ex (k.gk.ex h)), SqL.of (M.ex (k.gk.ex h')), List.getElem?_eq_getElem _, List.getElem?_eq_getElem _⟩
  stops := fun g2 m2 H2 k M _ => by
    have l1 := hv.length
    have l2 := hu.length
    exact ⟨vs, us, SqL.of (M.ex (k.gk.ex h)), SqL.of (M.ex (k.gk.ex h')), by rw [zipL_len]; omega⟩
  yields := fun i g2 m2 H2 x H3 k M _ hi y => by
    rw [zipL_len] at hi
    obtain ⟨T, z, z', rfl, hT, rfl, y1, y2⟩ := y
    have hx := y1 vs (SqL.of (M.ex (k.gk.ex h)))
    have hy := y2 us (SqL.of (M.ex (k.gk.ex h')))
    have i1 : i < xs.length := by omega
    have i2 : i < ys.length := by omega
    obtain ⟨v, hv1, hv2⟩ := (VRs.up k.gk k.rk _ _ hv).get (List.getElem?_eq_getElem i1)
    rw [hx] at hv1
    cases hv1
    obtain ⟨v', hv1', hv2'⟩ := (VRs.up k.gk k.rk _ _ hu).get (List.getElem?_eq_getElem i2)
    rw [hy] at hv1'
    cases hv1'
    obtain ⟨g3, e3, M3, r3⟩ := pair_ok M hT hv2 hv2'
    exact ⟨g3, _, e3, M3, by rw [zipL_get, List.getElem?_eq_getElem i1, List.getElem?_eq_getElem i2], r3⟩
theorem wk_keys {d : Addr} {o : Obj} {kvs : List (Key × V)} (hd : g.G d = some (.frz o (.dK kvs))) : Wk B g (Itk d o kvs) (kvs.map fun p => kW p.1) none where
  goes := fun i g2 m2 H2 k M _ hi => ⟨M.ex (k.gk.ex hd), by simpa using hi⟩
  stops := fun g2 m2 H2 k M _ => ⟨M.ex (k.gk.ex hd), by simp⟩
  yields := fun i g2 m2 H2 x H3 k M _ hi y => by
    obtain ⟨rfl, q, v, hq, rfl⟩ := y
    refine ⟨g2, kW q, Ev.refl, M, ?_, by cases q <;> rfl⟩
    rw [List.getElem?_map, hq]
    rfl
end
end Mi

set_option Elab.async false
set_option linter.all false
set_option maxRecDepth 100000
set_option maxHeartbeats 1000000
/-! Mi22: iterators as they are written. -/
namespace Mi
open PySem PySem.Spec L2
open PyProof.Rows (Fr News envOfC)

section
variable {X : Cx} {e tg : Expr} {te : TE}
theorem PI.mono {t t' : TI} (h : PI X tg e t) (i : ∀ σ H R, t' σ H R → t σ H R) : PI X tg e t' := ⟨fun pins s σ H R I q => h.run pins s σ H R I (i σ H R q)⟩
/-- the iterator of a value -/
def itS (X : Cx) (tg : Expr) (σ : L2.St) : V → Hp → (L2.It → Hp → Prop) → Prop := fun x H R => ∀ (pins : List (Addr × Obj)) (s : Shared) (u : Value), Inv X pins σ H s → RelV x u → wpAny (model X.prog X.w) X.A (pyIter u) (PIE X pins σ tg R) X.xe s
theorem pi_S (he : PE X e te) : PI X tg e (fun σ H R => te σ H fun x H1 => itS X tg σ x H1 R) := ⟨fun pins s σ H R I h => thn (he.run pins s σ H _ I h) fun u s1 ⟨x, H1, I1, rx, q⟩ => q pins s1 u I1 rx⟩
theorem it_list {σ : L2.St} {a : Addr} {xs : List V} {H : Hp} {R : L2.It → Hp → Prop} (hq : SqL X.K H a xs) (q : R (Itl X.K a) H) : itS X tg σ (.ref a) H R := by
  intro pins s u I r
  cases r
  obtain ⟨its, rv, p, hz⟩ := I.list hq
  refine wpAny_pyIter_list p.isList ?_
  refine ⟨s.heap.objs.size, [s.heap.objs.size], _, _, H, rfl, I.kept (t' := s.toks) fun b o e => Heap.get?_push_of_some _ e, turn_list a _, ⟨_, Heap.get?_push_size _ rfl, rfl, rfl⟩, fun b hb => ?_, q⟩
  have e : b = s.heap.objs.size := by simpa using hb
  subst e
  exact I.fpOk (Nat.le_refl _) (I.hok.fresh (Nat.le_refl _))
theorem it_tup {σ : L2.St} {a : Addr} {xs : List V} {H : Hp} {R : L2.It → Hp → Prop} (hq : SqT X.K H a xs) (q : R (Itt X.K a) H) : itS X tg σ (.ref a) H R := by
  intro pins s u I r
  cases r
  obtain ⟨its, rv, p, hz⟩ := I.tuple hq
  refine wpAny_pyIter_tuple (show s.heap.IsTuple a its.toArray from p) ?_
  refine ⟨s.heap.objs.size, [s.heap.objs.size], _, _, H, rfl, I.kept (t' := s.toks) fun b o e => Heap.get?_push_of_some _ e, turn_tuple a _, ⟨_, Heap.get?_push_size _ rfl, rfl, rfl⟩, fun b hb => ?_, q⟩
  have e : b = s.heap.objs.size := by simpa using hb
  subst e
  exact I.fpOk (Nat.le_refl _) (I.hok.fresh (Nat.le_refl _))
theorem it_str {σ : L2.St} {z : Str} {H : Hp} {R : L2.It → Hp → Prop} (q : R (Its z) H) : itS X tg σ (.str z) H R := by
  intro pins s u I r
  obtain ⟨t, rfl⟩ := r
  cases ha : z.cps.all (· < 128)
  · exact wpAny_pyIter_wide ha (pi_one (tk := s.toks) I _ (turn_str _ z t "str_iterator" (.inr rfl)) ⟨_, Heap.get?_push_size _ rfl, rfl, rfl⟩ q)
  · exact wpAny_pyIter_ascii ha (pi_one (tk := s.toks) I _ (turn_str _ z t "str_ascii_iterator" (.inl rfl)) ⟨_, Heap.get?_push_size _ rfl, rfl, rfl⟩ q)
theorem it_keys {σ : L2.St} {d : Addr} {kvs : List (Key × V)} {H : Hp} {R : L2.It → Hp → Prop} (hd : Rd H d (.dK kvs)) (q1 : ∀ o, H d = some (.frz o (.dK kvs)) → R (Itk d o kvs) H) (q2 : H d = some (.dK kvs) → ∀ o, R (Itk d o kvs) (upd H d (.frz o (.dK kvs)))) : itS X tg σ (.ref d) H R := by
  intro pins s u I r
  cases r
  have fin : ∀ {H' : Hp} {o : Obj}, Inv X pins σ H' s → H' d = some (.frz o (.dK kvs)) → R (Itk d o kvs) H' → wpAny (model X.prog X.w) X.A (pyIter (.ref d)) (PIE X pins σ tg R) X.xe s := fun {H' o} I' hd' q => by
    obtain ⟨hs, hgd, hx, es, ep, vs, hdt, hsz, kv, hm⟩ := I'.frzK hd'
    refine iter_keys hs hgd hx hdt (pi_one (tk := s.toks) I' _ (turn_keys _ hdt) ⟨_, Heap.get?_push_size _ rfl, rfl, ?_⟩ q)
    rw [hsz] <;> rfl
  rcases hd with hd | ⟨o, hd⟩
  · obtain ⟨od, I'⟩ := I.lock hd True.intro
    exact fin I' upd_same (q2 hd od)
  · exact fin I hd (q1 o hd)
end

section
variable {B : Tb} {X : Cx} {Wx : WX} {n : Nat} {sc : Sc} {pos p apos : Pos} {e ea eb ec tg : Expr} {a b c : E}
theorem i_e (D : Gd B sc X Wx n) (ha : PEm B X Wx n ea a) : PI X tg ea (tI B (cfN B.T n) Wx (.e a)) := PI.mono (pi_S ha) fun σ H R h => by
  obtain ⟨g, env, m, H0, M, Rr, h⟩ := h
  simp only [evI] at h
  refine tE_bindF M Rr Ev.refl h fun rx m1 g1 x H1 he e1 e1' M1 R1 fx h1 => ?_
  split at h1
  · rename_i i
    have hv : VR B g1.G g1.ρ (.cell i) x := fx
    simp only [VR] at hv
    obtain ⟨ad, had, rfl⟩ := hv
    split at h1
    · rename_i xs hm1
      obtain ⟨⟨vs, qa, ra⟩, _⟩ := M1.cel i _ ad hm1 had
      refine it_list (SqL.of qa) (h1 g1 _ H1 e1 M1 ?_)
      rw [D.K]
      exact wk_cell had
    · exact h1.elim
  · split at h1
    · rename_i w hw
      have hv := fx.esc hw
      split at h1
      · rename_i xs hxs
        cases w with
        | lst ys =>
          cases hxs
          simp only [VR] at hv
          obtain ⟨ad, vs, rfl, qa, ra⟩ := hv
          refine it_list (SqL.of (M1.ex qa)) (h1 g1 _ H1 e1 M1 ?_)
          rw [D.K]
          exact wk_list qa ra
        | tup ys =>
          cases hxs
          simp only [VR] at hv
          obtain ⟨ad, vs, rfl, qa, ra⟩ := hv
          refine it_tup (by rw [D.K]; exact SqT.mr M1 qa) (h1 g1 _ H1 e1 M1 ?_)
          rw [D.K]
          exact wk_tup qa ra
        | str z =>
          cases hxs
          cases hv
          exact it_str (h1 g1 _ H1 e1 M1 wk_str)
        | dct nn ks us =>
          cases hxs
          simp only [VR] at hv
          obtain ⟨d, kvs, rfl, rfl, qa, rfl, ra⟩ := hv
          refine it_keys (Rd.mr M1 qa) (fun o ho => ?_) fun hd o => ?_
          · refine h1 g1 _ H1 e1 M1 (wk_keys ?_)
            rcases qa with qa | ⟨o', qa⟩
            · have := M1.sub _ _ qa
              rw [ho] at this
              cases this
            · have := M1.sub _ _ qa
              rw [ho] at this
              cases this
              exact qa
          · have hG : g1.G d = some (.dK kvs) := by
              rcases qa with qa | ⟨o', qa⟩
              · exact qa
              · have := M1.sub _ _ qa
                rw [hd] at this
                cases this
            -- the dict is locked for good
            have hgs : Gs g1.G (upd g1.G d (.frz o (.dK kvs))) := fun b u hb => by
              by_cases hbd : b = d
              · subst hbd
                rw [hG] at hb
                cases hb
                exact .inr ⟨kvs, o, rfl, upd_same⟩
              · exact .inl (by rw [upd_ne hbd]; exact hb)
            have e2 : Ev g H ⟨upd g1.G d (.frz o (.dK kvs)), g1.ρ⟩ (upd H1 d (.frz o (.dK kvs))) := by
              refine ⟨e1.gk.trans hgs, e1.rk, fun b u hb => ?_, e1.rn, fun b u hb hn => ?_, fun b u hb => ?_⟩
              · by_cases hbd : b = d
                · subst hbd
                  exact e1.gn b _ hG
                · have hb' : upd g1.G d (.frz o (.dK kvs)) b = some u := hb
                  rw [upd_ne hbd] at hb'
                  exact e1.gn b u hb'
              · by_cases hbd : b = d
                · subst hbd
                  rcases e1.fr b u hb hn with z | ⟨⟨_, _, _, z⟩, _⟩
                  · rw [hd] at z
                    cases z
                    exact .inr ⟨⟨kvs, o, rfl, upd_same⟩, _, upd_same⟩
                  · rw [hd] at z
                    cases z
                · rcases e1.fr b u hb hn with z | ⟨⟨kv, q, z1, z2⟩, u', z3⟩
                  · exact .inl (by rw [upd_ne hbd]; exact z)
                  · exact .inr ⟨⟨kv, q, z1, by rw [upd_ne hbd]; exact z2⟩, u', by show upd g1.G d _ b = _; rw [upd_ne hbd]; exact z3⟩
              · obtain ⟨u', hu'⟩ := e1.dom b u hb
                by_cases hbd : b = d
                · exact ⟨_, by rw [hbd]; exact upd_same⟩
                · exact ⟨u', by rw [upd_ne hbd]; exact hu'⟩
            have M2 : MR B ⟨upd g1.G d (.frz o (.dK kvs)), g1.ρ⟩ m1 (upd H1 d (.frz o (.dK kvs))) := by
              refine ⟨fun b u hb => ?_, M1.len, fun i ob b hi hb => ?_, M1.nd⟩
              · by_cases hbd : b = d
                · subst hbd
                  have hb' : upd g1.G b (.frz o (.dK kvs)) b = some u := hb
                  rw [upd_same] at hb' ⊢
                  exact hb'
                · have hb' : upd g1.G d (.frz o (.dK kvs)) b = some u := hb
                  rw [upd_ne hbd] at hb' ⊢
                  exact M1.sub b u hb'
              · obtain ⟨k1, k2⟩ := M1.cel i ob b hi hb
                have hbd : b ≠ d := fun z => by subst z; rw [hG] at k2; cases k2
                exact ⟨OR.up hgs ⟨[], by simp⟩ (fun u hu => by rw [upd_ne hbd]; exact hu) k1, by show upd g1.G d _ b = none; rw [upd_ne hbd]; exact k2⟩
            exact h1 _ _ _ e2 M2 (wk_keys (show upd g1.G d _ d = _ from upd_same))
        | _ => cases hxs
      · exact h1.elim
    · exact h1.elim
end
end Mi

set_option Elab.async false
set_option linter.all false
set_option maxRecDepth 100000
set_option maxHeartbeats 1000000
/-! Mi23: ranges, enumerate, zip, reversed. -/
namespace Mi
open PySem PySem.Spec L2
open PyProof.Rows (Fr News envOfC)

section
variable {B : Tb} {X : Cx} {Wx : WX} {n : Nat} {sc : Sc} {pos p apos : Pos} {e ea eb ec tg : Expr} {a b c : E}
theorem sm62 {i : Int} (h : small62 i = true) : -(2 ^ 62) ≤ i ∧ i < 2 ^ 62 := by
  unfold small62 at h
  simpa only [Bool.and_eq_true, decide_eq_true_eq] using h
theorem star1 {env : Env} (h : ns ea = true) : starEach [ea] env = [(false, eval ea env)] := by rw [star_cons h]; rfl
theorem i_rng1 (D : Gd B sc X Wx n) (hg : glB sc.scope "range" = true) (ha : PEm B X Wx n ea a) (hs : ns ea = true) : PI X tg (.Call (.Name "range" p) [ea] [] pos) (tI B (cfN B.T n) Wx (.rng1 a)) :=
  PI.mono (pi_range1 (glB_ok (by rw [D.sco]; exact hg)) (by rw [D.mg]; exact D.fc.nog _ (by decide +kernel)) (pa_cons ha pa_nil (star_cons hs)) (star1 hs)) fun σ H R h => by
  obtain ⟨g, env, m, H0, M, Rr, h⟩ := h
  simp only [evI] at h
  refine tE_bindF M Rr Ev.refl h fun rx m1 g1 x H1 he e1 e1' M1 R1 fx h1 => ?_
  split at h1
  · rename_i k
    split at h1
    · rename_i hk
      cases fx
      obtain ⟨k1, k2⟩ := sm62 hk
      refine ⟨k, rfl, k1, k2, h1 g1 _ H1 e1 M1 ?_⟩
      have := wk_rng (B := B) (g := g1) (lo := 0) (hi := k)
      rw [Int.sub_zero] at this
      exact this
    · exact h1.elim
  · exact h1.elim
theorem star2 {env : Env} (h : ns ea = true) (h2 : ns eb = true) : starEach [ea, eb] env = [(false, eval ea env), (false, eval eb env)] := by rw [star_cons h, star_cons h2]; rfl
theorem i_rng2 (D : Gd B sc X Wx n) (hg : glB sc.scope "range" = true) (ha : PEm B X Wx n ea a) (hb : PEm B X Wx n eb b) (hs : ns ea = true) (hs2 : ns eb = true) : PI X tg (.Call (.Name "range" p) [ea, eb] [] pos) (tI B (cfN B.T n) Wx (.rng2 a b)) :=
  PI.mono (pi_range2 (glB_ok (by rw [D.sco]; exact hg)) (by rw [D.mg]; exact D.fc.nog _ (by decide +kernel)) (pa_cons ha (pa_cons hb pa_nil (star_cons hs2)) (star_cons hs)) (star2 hs hs2) (star1 hs2)) fun σ H R h => by
  obtain ⟨g, env, m, H0, M, Rr, h⟩ := h
  simp only [evI] at h
  refine tE_bindF M Rr Ev.refl h fun rx m1 g1 x H1 he e1 e1' M1 R1 fx h1 => ?_
  refine tE_bindF M1 R1 e1 h1 fun ry m2 g2 y H2 he2 e2 e2' M2 R2 fy h2 => ?_
  split at h2
  · rename_i i j
    split at h2
    · rename_i hk
      simp only [Bool.and_eq_true] at hk
      cases fx
      cases fy
      obtain ⟨k1, k2⟩ := sm62 hk.1
      obtain ⟨k3, k4⟩ := sm62 hk.2
      exact ⟨i, j, rfl, ⟨k1, k2, k3, k4⟩, h2 g2 _ H2 e2 M2 wk_rng⟩
    · exact h2.elim
  · exact h2.elim
theorem i_rng3 (D : Gd B sc X Wx n) (hg : glB sc.scope "range" = true) (ha : PEm B X Wx n ea a) (hb : PEm B X Wx n eb b) (hc : PEm B X Wx n ec c) (hs : ns ea = true) (hs2 : ns eb = true) (hs3 : ns ec = true) : PI X tg (.Call (.Name "range" p) [ea, eb, ec] [] pos) (tI B (cfN B.T n) Wx (.rng3 a b c)) :=
  PI.mono (pi_range3 (glB_ok (by rw [D.sco]; exact hg)) (by rw [D.mg]; exact D.fc.nog _ (by decide +kernel)) (pa_cons ha (pa_cons hb (pa_cons hc pa_nil (star_cons hs3)) (star_cons hs2)) (star_cons hs)) (by rw [star_cons hs]) (star_any (by simp [hs2, hs3]))) fun σ H R h => by
  obtain ⟨g, env, m, H0, M, Rr, h⟩ := h
  simp only [evI] at h
  refine tE_bindF M Rr Ev.refl h fun rx m1 g1 x H1 he e1 e1' M1 R1 fx h1 => ?_
  refine tE_bindF M1 R1 e1 h1 fun ry m2 g2 y H2 he2 e2 e2' M2 R2 fy h2 => ?_
  refine tE_bindF M2 R2 e2 h2 fun rz m3 g3 z H3 he3 e3 e3' M3 R3 fz h3 => ?_
  split at h3
  · rename_i i j k
    split at h3
    · rename_i hk
      simp only [Bool.and_eq_true, decide_eq_true_eq] at hk
      cases fx
      cases fy
      cases fz
      have h0 : 0 ≤ Builtin.Range.rangeSize i j k := by
        unfold Builtin.Range.rangeSize
        by_cases hk0 : k > 0
        · rw [if_pos hk0]
          by_cases hij : i < j
          · rw [if_pos hij]
            have := Int.ediv_nonneg (show 0 ≤ j - i - 1 by omega) (show 0 ≤ k by omega)
            omega
          · rw [if_neg hij]
            exact Int.le_refl 0
        · rw [if_neg hk0]
          by_cases hij : i > j
          · rw [if_pos hij]
            have := Int.ediv_nonneg (show 0 ≤ i - j - 1 by omega) (show 0 ≤ -k by omega)
            omega
          · rw [if_neg hij]
            exact Int.le_refl 0
      exact ⟨i, j, k, _, rfl, ⟨hk.1.1, hk.1.2, hk.2, (Int.toNat_of_nonneg h0).symm⟩, h3 g3 _ H3 e3 M3 wk_rngC⟩
    · exact h3.elim
  · exact h3.elim
theorem i_enum {elts : List Expr} {kk : Nat} {tpos : Pos} (D : Gd B sc X Wx n) (hg : glB sc.scope "enumerate" = true) (ha : PEm B X Wx n ea a) (hs : ns ea = true) : PI X (.Tuple elts kk tpos) (.Call (.Name "enumerate" p) [ea] [] pos) (tI B (cfN B.T n) Wx (.enum a)) :=
  PI.mono (pi_enum (glB_ok (by rw [D.sco]; exact hg)) (by rw [D.mg]; exact D.fc.nog _ (by decide +kernel)) (pa_cons ha pa_nil (star_cons hs)) (star1 hs)) fun σ H R h => by
  obtain ⟨g, env, m, H0, M, Rr, h⟩ := h
  simp only [evI] at h
  refine tE_bindF M Rr Ev.refl h fun rx m1 g1 x H1 he e1 e1' M1 R1 fx h1 => ?_
  split at h1
  · rename_i xs hw
    have hv := fx.esc hw
    simp only [VR] at hv
    obtain ⟨ad, vs, rfl, qa, ra⟩ := hv
    refine ⟨ad, vs, rfl, SqL.of (M1.ex qa), h1 g1 _ H1 e1 M1 ?_⟩
    rw [D.K]
    exact wk_enum qa ra
  · exact h1.elim
theorem wk_zipT {g : Gh} {a1 a2 : Addr} {xs ys : List W} {vs us : List V} (h : SqT B.K g.G a1 vs) (hv : VRs B g.G g.ρ xs vs) (h' : SqT B.K g.G a2 us) (hu : VRs B g.G g.ρ ys us) : Wk B g (RZ.ItzT B.K a1 a2) (zipL xs ys) none where
  goes := fun i g2 m2 H2 k M _ hi => by
    rw [zipL_len] at hi
    have l1 := hv.length
    have l2 := hu.length
    exact ⟨vs, us, vs[i]'(by omega), us[i]'(by omega), SqT.mr M (SqT.up k.gk h), SqT.mr M (SqT.up k.gk h'), List.getElem?_eq_getElem _, List.getElem?_eq_getElem _⟩
  stops := fun g2 m2 H2 k M _ => by
    have l1 := hv.length
    have l2 := hu.length
    exact ⟨vs, us, SqT.mr M (SqT.up k.gk h), SqT.mr M (SqT.up k.gk h'), by rw [zipL_len]; omega⟩
  yields := fun i g2 m2 H2 x H3 k M _ hi y => by
    rw [zipL_len] at hi
    obtain ⟨T, z, z', rfl, hT, rfl, y1, y2⟩ := y
    have hx := y1 vs (SqT.mr M (SqT.up k.gk h))
    have hy := y2 us (SqT.mr M (SqT.up k.gk h'))
    have i1 : i < xs.length := by omega
    have i2 : i < ys.length := by omega
    obtain ⟨v, hv1, hv2⟩ := (VRs.up k.gk k.rk _ _ hv).get (List.getElem?_eq_getElem i1)
    rw [hx] at hv1
    cases hv1
    obtain ⟨v', hv1', hv2'⟩ := (VRs.up k.gk k.rk _ _ hu).get (List.getElem?_eq_getElem i2)
    rw [hy] at hv1'
    cases hv1'
    obtain ⟨g3, e3, M3, r3⟩ := pair_ok M hT hv2 hv2'
    exact ⟨g3, _, e3, M3, by rw [zipL_get, List.getElem?_eq_getElem i1, List.getElem?_eq_getElem i2], r3⟩
theorem i_zip {elts : List Expr} {kk : Nat} {tpos : Pos} (D : Gd B sc X Wx n) (hg : glB sc.scope "zip" = true) (ha : PEm B X Wx n ea a) (hb : PEm B X Wx n eb b) (hs : ns ea = true) (hs2 : ns eb = true) : PI X (.Tuple elts kk tpos) (.Call (.Name "zip" p) [ea, eb] [] pos) (tI B (cfN B.T n) Wx (.zip a b)) :=
  PI.mono (RZ.pi_zipA (glB_ok (by rw [D.sco]; exact hg)) (by rw [D.mg]; exact D.fc.nog _ (by decide +kernel)) (pa_cons ha (pa_cons hb pa_nil (star_cons hs2)) (star_cons hs)) (by rw [star_cons hs]) (star_any (by simp [hs2]))) fun σ H R h => by
  obtain ⟨g, env, m, H0, M, Rr, h⟩ := h
  simp only [evI] at h
  refine tE_bindF M Rr Ev.refl h fun rx m1 g1 x H1 he e1 e1' M1 R1 fx h1 => ?_
  split at h1
  · rename_i u hu
    refine tE_bindF M1 R1 e1 h1 fun ry m2 g2 y H2 he2 e2 e2' M2 R2 fy h2 => ?_
    have hvu := e2'.vr (fx.esc hu)
    split at h2
    · rename_i xs ys hw
      have hv := fy.esc hw
      simp only [VR] at hv hvu
      obtain ⟨ad, vs, rfl, qa, ra⟩ := hvu
      obtain ⟨ad', vs', rfl, qa', ra'⟩ := hv
      refine ⟨ad, ad', vs, vs', rfl, .inl ⟨SqL.of (M2.ex qa), SqL.of (M2.ex qa'), h2 g2 _ H2 e2 M2 ?_⟩⟩
      rw [D.K]
      exact wk_zip qa ra qa' ra'
    · rename_i xs ys hw
      have hv := fy.esc hw
      simp only [VR] at hv hvu
      obtain ⟨ad, vs, rfl, qa, ra⟩ := hvu
      obtain ⟨ad', vs', rfl, qa', ra'⟩ := hv
      refine ⟨ad, ad', vs, vs', rfl, .inr ⟨by rw [D.K]; exact SqT.mr M2 qa, by rw [D.K]; exact SqT.mr M2 qa', h2 g2 _ H2 e2 M2 ?_⟩⟩
      rw [D.K]
      exact wk_zipT qa ra qa' ra'
    · exact h2.elim
  · exact h1.elim
theorem i_rev (D : Gd B sc X Wx n) (hg : glB sc.scope "reversed" = true) (ha : PEm B X Wx n ea a) (hs : ns ea = true) : PI X tg (.Call (.Name "reversed" p) [ea] [] pos) (tI B (cfN B.T n) Wx (.rev a)) :=
  PI.mono (pi_reversed (glB_ok (by rw [D.sco]; exact hg)) (by rw [D.mg]; exact D.fc.nog _ (by decide +kernel)) (pa_cons ha pa_nil (star_cons hs)) (star1 hs)) fun σ H R h => by
  obtain ⟨g, env, m, H0, M, Rr, h⟩ := h
  simp only [evI] at h
  refine tE_bindF M Rr Ev.refl h fun rx m1 g1 x H1 he e1 e1' M1 R1 fx h1 => ?_
  split at h1
  · rename_i xs hw
    have hv := fx.esc hw
    simp only [VR] at hv
    obtain ⟨ad, vs, rfl, qa, ra⟩ := hv
    refine ⟨ad, vs, rfl, SqL.of (M1.ex qa), h1 g1 _ H1 e1 M1 ?_⟩
    rw [D.K]
    have hl := ra.length
    refine ⟨fun i g2 m2 H2 k M2 _ hi => ?_, fun g2 m2 H2 k M2 _ => ?_, fun i g2 m2 H2 x H3 k M2 _ hi y => ?_⟩
    · rw [List.length_reverse] at hi
      exact ⟨by omega, vs, vs[vs.length - 1 - i]'(by omega), SqL.of (M2.ex (k.gk.ex qa)), List.getElem?_eq_getElem _⟩
    · show vs.length ≤ xs.reverse.length
      rw [List.length_reverse]
      omega
    · rw [List.length_reverse] at hi
      obtain ⟨rfl, y2⟩ := y
      have hx := y2 vs (SqL.of (M2.ex (k.gk.ex qa)))
      have i1 : xs.length - 1 - i < xs.length := by omega
      obtain ⟨v, hv1, hv2⟩ := (VRs.up k.gk k.rk _ _ ra).get (List.getElem?_eq_getElem i1)
      rw [hl, hx] at hv1
      cases hv1
      exact ⟨g2, _, Ev.refl, M2, by rw [List.getElem?_reverse (by omega), List.getElem?_eq_getElem i1], hv2⟩
  · exact h1.elim
end
end Mi

set_option Elab.async false
set_option linter.all false
set_option maxRecDepth 100000
set_option maxHeartbeats 1000000
/-! Mi24: comprehensions. -/
namespace Mi
open PySem PySem.Spec L2
open PyProof.Rows (Fr News envOfC)

theorem wipe_twice {σ : L2.St} : ∀ (us vs : List Nat), (∀ i ∈ us, i ∈ vs) → L2.wipe (L2.wipe σ us) vs = L2.wipe σ vs
  | [], _, _ => rfl
  | u :: us, vs, h => by
    show L2.wipe ((L2.wipe σ us).set u none) vs = _
    rw [wipe_set (h u (List.mem_cons_self ..)), wipe_twice us vs fun i hi => h i (List.mem_cons_of_mem _ hi)]
section
variable {B : Tb} {X : Cx} {Wx : WX} {n : Nat} {sc : Sc} {pos p apos : Pos} {e ea eb ec tg : Expr} {a b c : E} {es : Es} {xs : List Expr}
abbrev WxF : WX := fun _ _ _ _ => False
/-- tests in a row -/
def tIfs (B : Tb) (cf : CF) (Wx : WX) (ir : Es) : TT := fun σ H Q => ∃ g env m H0, MR B g m H ∧ ER B g env σ H H0 ∧ OkG B g H relB (evIf B.T cf env ir m) Q (fun c d H' => Wx c d σ H')
theorem ifs_nil : PTs X [] (tIfs B (cfN B.T n) Wx .nil) := ⟨fun pins s σ H Q I h => pts_nil.run pins s σ H Q I (by
  obtain ⟨g, env, m, H0, M, R, h⟩ := h
  simp only [evIf] at h
  exact h g true H Ev.refl M rfl)⟩
theorem ifs_one (ha : PTm B X Wx n ea a) : PTs X [ea] (tIfs B (cfN B.T n) Wx (.cons a .nil)) := ⟨fun pins s σ H Q I h => (pts_one ha).run pins s σ H Q I (by
  obtain ⟨g, env, m, H0, M, R, h⟩ := h
  refine ⟨g, env, m, H0, M, R, ?_⟩
  unfold evT
  simp only [evIf] at h
  cases q : evE B.T (cfN B.T n) env a m with
  | stuck => rw [q] at h; exact h
  | exc x m' => rw [q] at h; exact h
  | ok rv m' =>
    rw [q] at h
    rcases rv with w | o | i
    · cases w with
      | bl k =>
        intro g' y H' e M' r
        cases r
        cases k with
        | true => exact h g' true H' e M' rfl
        | false => exact h g' false H' e M' rfl
      | _ => exact (h : False).elim
    · exact (h : False).elim
    · exact (h : False).elim)⟩
theorem noX_bind {α β γ δ : Type} {rel : Gh → Hp → γ → δ → Prop} {rel2 : Gh → Hp → α → β → Prop} {gs gc : Gh} {Hs Hc : Hp} {r : Out α} {K : α → Mem → Out γ} {Q : δ → Hp → Prop} {Q1 : β → Hp → Prop} {We We' : Value → Option Addr → Hp → Prop}
    (ev : Ev gs Hs gc Hc) (h : OkG B gs Hs rel ((noX r).bind K) Q We)
    (k : ∀ x m1 g1 y H1, r = .ok x m1 → Ev gs Hs g1 H1 → Ev gc Hc g1 H1 → MR B g1 m1 H1 → rel2 g1 H1 x y → OkG B gs Hs rel (K x m1) Q We → Q1 y H1) : OkG B gc Hc rel2 r Q1 We' := by
  cases r with
  | ok x m1 => exact fun g1 y H1 e M q => k x m1 g1 y H1 rfl (ev.trans e) e M q h
  | exc x m1 => exact (h : False).elim
  | stuck => exact (h : False).elim
/-- the context of a comprehension's block -/
def Sc.blk (sc : Sc) (scope : Scope) : Sc := ⟨sc.N, relS scope sc.scope, fun x => scope.names.lookup x == some .cell⟩
theorem takesF {X : Cx} : Takes X WxF := fun u s' ⟨_, _, _, _, _, _, _, _, _, _, _, _, _, _, _, _, w⟩ => False.elim w
theorem Gd.blk (D : Gd B sc X Wx n) (scope : Scope) (s : Shared) (H : Hp) (C : Addr) (cl : List (Str × Addr)) (fp : List Addr) : Gd B (sc.blk scope) (X.blk s H scope (compEnvC scope cl C X.env) fp) WxF n where
  prog := D.prog
  w := D.w
  K := D.K
  mg := D.mg
  base := D.base
  N := D.N
  nd := D.nd
  sco := by
    show relS scope X.env.scope = relS scope sc.scope
    rw [D.sco]
  fnn := rfl
  calm := D.calm
  room := D.room
  gd := D.gd
  tk := takesF
  fns := D.fns
  fc := D.fc
end
end Mi

set_option Elab.async false
set_option linter.all false
set_option maxRecDepth 100000
set_option maxHeartbeats 2000000
/-! Mi25: list comprehensions. -/
namespace Mi
open PySem PySem.Spec L2
open PyProof.Rows (Fr News envOfC)

section
variable {B : Tb} {X : Cx} {Wx : WX} {n : Nat} {sc : Sc} {pos p apos : Pos} {e ea eb ec tg : Expr} {a b c : E} {es : Es} {xs : List Expr}
/-- one turn of a list comprehension -/
def turnL (T : Pg) (cf : CF) (env : En) (tg : Tg) (own : List Nat) (ifs : Es) (e : E) (x : W) (m : Mem) : Out (Option W) := match bindT tg x (wipeE env own) with
  | some env' => (evIf T cf env' ifs m).bind fun b m1 => match b with
    | true => (evE T cf env' e m1).bind fun r m2 => (match esc r with | some w => .ok (some w) m2 | none => .stuck)
    | false => .ok none m1
  | none => .stuck
abbrev relO (B : Tb) : Gh → Hp → Option W → Option V → Prop := fun g' _ w v => match w, v with | some w, some v => VR B g'.G g'.ρ w v | none, none => True | _, _ => False
/-- the elements from the i-th on are put at the end of acc -/
def PvL (B : Tb) (Wx : WX) (gs : Gh) (Hs : Hp) (g1 : Gh) (H1 : Hp) (D : Addr) (env : En) (σ : L2.St) (xs : List W) (src : Src) (f : W → Mem → Out (Option W)) (Q : VK) (i : Nat) (H : Hp) : Prop :=
  ∃ g m acc vs, Ev g1 H1 g H ∧ MR B g m H ∧ g.G D = none ∧ D ∉ g.ρ ∧ H D = some (.lst vs) ∧ VRs B g.G g.ρ acc vs ∧ acc.length ≤ i ∧
    OkG B gs Hs (relR B env σ Hs) ((compL (fun x m => noX (f x m)) src (xs.drop i) m).bind fun ws m2 => .ok (.new (.lst (acc ++ ws))) m2) Q (fun c d H' => Wx c d σ H')
theorem comp_src {α γ δ : Type} {rel : Gh → Hp → γ → δ → Prop} {gs : Gh} {Hs : Hp} {f : W → Mem → Out (Option α)} {src : Src} {xs : List W} {m : Mem} {K : List α → Mem → Out γ} {Q : δ → Hp → Prop} {We : Value → Option Addr → Hp → Prop}
    (h : OkG B gs Hs rel ((compL f src xs m).bind K) Q We) : okSrc src m = true := by
  cases xs with
  | nil =>
    unfold compL at h
    split at h
    · assumption
    · exact (h : False).elim
  | cons x xs =>
    unfold compL at h
    split at h
    · assumption
    · exact (h : False).elim
theorem comp_red {tgi : Tg} {own : List (Str × Nat)} {it : Mi.It} {irIfs : Es} {irE : E} {σ : L2.St} {H : Hp} {Q : VK} (hsl : ∀ i ∈ tgi.slots, i ∈ own.map (·.2)) (h : tE B (cfN B.T n) Wx (.comp tgi (own.map (·.2)) it irIfs irE) σ H Q) :
    tLc (tI B (cfN B.T n) Wx it) (gB B tgi) (tIfs B (cfN B.T n) WxF irIfs) (tE B (cfN B.T n) WxF irE) (own.map (·.2)) σ H Q := by
  obtain ⟨g, env, m, H0, M, R, h⟩ := h
  simp only [evE] at h
  refine ⟨g, env, m, H0, M, R, h.bind Ev.refl fun xp m1 g1 J H1 heq e1 e1' M1 wk h1 => ?_⟩
  have R1 : ER B g1 env σ H1 H0 := R.ev e1
  split at h1
  case isFalse => exact h1.elim
  rename_i hz
  have h1' : OkG B g H (relR B env σ H) ((compL (fun x m => noX (turnL B.T (cfN B.T n) env tgi (own.map (·.2)) irIfs irE x m)) xp.2 xp.1 m1).bind fun ws m2 => .ok (.new (.lst ws)) m2) Q (fun c d H' => Wx c d σ H') := h1
  intro Dd hD
  have gD : g1.G Dd = none := M1.gno hD
  have rD : Dd ∉ g1.ρ := M1.rno hD
  have e2 : Ev g1 H1 g1 (upd H1 Dd (.lst [])) := Ev.new hD
  refine ⟨fun i mm H' => mm = xp.1.length - i ∧ i ≤ xp.1.length ∧ PvL B Wx g H g1 H1 Dd env σ xp.1 xp.2 (turnL B.T (cfN B.T n) env tgi (own.map (·.2)) irIfs irE) Q i H', ⟨xp.1.length, by simp, Nat.zero_le _, g1, m1, [], [], e2, MR.new M1 hD, gD, rD, upd_same, VRs.nil, Nat.le_refl _, h1'⟩, ?_⟩
  rintro i mm H2 ⟨rfl, hile, g2, m2, acc, vs, e3, M2, gD2, rD2, hD2, rv, hal, h2⟩
  have hsrc := comp_src h2
  by_cases hlt : i < xp.1.length
  · refine .inr ⟨wk.goes i g2 m2 H2 e3.gk' M2 hsrc hlt, PvL B Wx g H g1 H1 Dd env σ xp.1 xp.2 (turnL B.T (cfN B.T n) env tgi (own.map (·.2)) irIfs irE) Q (i + 1), fun H' q => ⟨xp.1.length - (i + 1), by omega, rfl, hlt, q⟩, fun x H3 y => ?_⟩
    obtain ⟨g3, w, e4, M3, hw, hx⟩ := wk.yields i g2 m2 H2 x H3 e3.gk' M2 hsrc hlt y
    have hdrop : xp.1.drop i = w :: xp.1.drop (i + 1) := by
      rw [List.drop_eq_getElem_cons hlt]
      congr 1
      rw [List.getElem?_eq_getElem hlt] at hw
      exact Option.some.inj hw
    rw [hdrop] at h2
    unfold compL at h2
    rw [if_pos hsrc, Out.bind_as] at h2
    have e13 : Ev g H g3 H3 := e1.trans (e3.trans e4)
    have hD3 : H3 Dd = some (.lst vs) := e4.keepOwn gD2 rD2 hD2
    have gD3 : g3.G Dd = none := e4.gno gD2 hD2
    have rD3 : Dd ∉ g3.ρ := e4.rno rD2 hD2
    have R3 : ER B g3 (wipeE env (own.map (·.2))) (L2.wipe σ (own.map (·.2))) H3 H0 := (R1.ev (e3.trans e4)).wipe _
    -- the turn
    have turn : OkG B g3 H3 (relO B) (turnL B.T (cfN B.T n) env tgi (own.map (·.2)) irIfs irE w m2) (fun o H4 => match o with
        | some v => ∃ acc', H4 Dd = some (.lst acc') ∧ acc'.length < sizeLine ∧ PvL B Wx g H g1 H1 Dd env σ xp.1 xp.2 (turnL B.T (cfN B.T n) env tgi (own.map (·.2)) irIfs irE) Q (i + 1) (upd H4 Dd (.lst (acc' ++ [v])))
        | none => PvL B Wx g H g1 H1 Dd env σ xp.1 xp.2 (turnL B.T (cfN B.T n) env tgi (own.map (·.2)) irIfs irE) Q (i + 1) H4) (fun _ _ _ => False) := by
      refine noX_bind e13 h2 fun yo m4 g4 vo H4 heq4 e5 e5' M4 r4 h4 => ?_
      have hD4 : H4 Dd = some (.lst vs) := e5'.keepOwn gD3 rD3 hD3
      have gD4 : g4.G Dd = none := e5'.gno gD3 hD3
      have rD4 : Dd ∉ g4.ρ := e5'.rno rD3 hD3
      have e14 : Ev g1 H1 g4 H4 := e3.trans (e4.trans e5')
      rw [Out.bind_as] at h4
      cases yo with
      | none =>
        cases vo with
        | some v => exact (r4 : False).elim
        | none =>
          refine ⟨g4, m4, acc, vs, e14, M4, gD4, rD4, hD4, (e4.trans e5').vrs rv, by omega, ?_⟩
          exact h4
      | some w2 =>
        cases vo with
        | none => exact (r4 : False).elim
        | some v =>
          have hlen : vs.length < sizeLine := by
            rw [← rv.length]
            omega
          refine ⟨vs, hD4, hlen, g4, m4, acc ++ [w2], vs ++ [v], e14.ownWr hD Wr.upd, M4.ownWr gD4 rD4 Wr.upd, gD4, rD4, upd_same, VRs.app ((e4.trans e5').vrs rv) (VRs.cons r4 VRs.nil), by rw [List.length_append]; simp; omega, ?_⟩
          have e : (fun (ws : List W) (m2 : Mem) => (Out.ok (RV.new (.lst (acc ++ [w2] ++ ws))) m2 : Out RV)) = fun ws m2 => (Out.ok (w2 :: ws) m2 : Out (List W)).bind fun ws m2 => Out.ok (RV.new (.lst (acc ++ ws))) m2 := by
            funext ws m2
            simp [Out.bind]
          rw [e]
          exact h4
    unfold turnL at turn
    split at turn
    · rename_i env' hb
      refine ⟨g3, _, m2, H0, w, env', M3, R3, hx, hb, fun σ2 R4 hwp => ⟨?_, ?_⟩⟩
      · rw [hwp _ hsl]
        exact wipe_twice _ _ fun _ h => h
      · refine ⟨g3, env', m2, H0, M3, R4, turn.bind Ev.refl fun k m5 g5 k' H5 heq5 e6 e6' M5 rk h5 => ?_⟩
        cases rk
        cases k with
        | false =>
          rw [if_neg Bool.false_ne_true]
          exact h5 g5 none H5 e6 M5 True.intro
        | true =>
          rw [if_pos rfl]
          refine tE_bindF M5 (R4.ev e6) e6 h5 fun rv2 m6 g6 v6 H6 heq6 e7 e7' M6 R6 fx h6 => ?_
          split at h6
          · rename_i w6 hw6
            exact h6 g6 (some v6) H6 e7 M6 (fx.esc hw6)
          · exact (h6 : False).elim
    · exact (turn : False).elim
  · have hi' : i = xp.1.length := by omega
    subst hi'
    refine .inl ⟨wk.stops g2 m2 H2 e3.gk' M2 hsrc, ?_⟩
    rw [List.drop_length] at h2
    unfold compL at h2
    rw [if_pos hsrc] at h2
    simp only [Out.bind, List.append_nil] at h2
    exact h2 g2 _ H2 (e1.trans e3) M2 ⟨Dd, rfl, gD2, rD2, ⟨vs, hD2, rv⟩, e1.none hD⟩
theorem e_comp {tgi : Tg} {own : List (Str × Nat)} {it : Mi.It} {iter elt : Expr} {ifs : List Expr} {irIfs : Es} {irE : E} {scope : Scope} (D : Gd B sc X Wx n) (hi : PI X tg iter (tI B (cfN B.T n) Wx it)) (ok : BlkOk X.N X.env.scope scope own)
    (hset : noSet iter = true) (htg : tgB (sc.blk scope) tgi tg = true) (hsl : ∀ i ∈ tgi.slots, i ∈ own.map (·.2))
    (hifs : ∀ (X' : Cx), Gd B (sc.blk scope) X' WxF n → PTs X' ifs (tIfs B (cfN B.T n) WxF irIfs)) (he : ∀ (X' : Cx), Gd B (sc.blk scope) X' WxF n → PEm B X' WxF n elt irE) :
    PEm B X Wx n (.ListComp elt [⟨tg, iter, ifs, 0⟩] scope pos) (.comp tgi (own.map (·.2)) it irIfs irE) :=
  PE.mono (pe_lc D.calm D.nd hi ok (fun s H C cl fp => tg_ok (D.blk scope s H C cl fp) htg) (fun s H C cl fp => hifs _ (D.blk scope s H C cl fp)) (fun s H C cl fp => he _ (D.blk scope s H C cl fp)) (folded_ok hset)) fun σ H Q h => comp_red hsl h
end
end Mi

set_option Elab.async false
set_option linter.all false
set_option maxRecDepth 100000
set_option maxHeartbeats 2000000
/-! Mi26: dict comprehensions. -/
namespace Mi
open PySem PySem.Spec L2
open PyProof.Rows (Fr News envOfC)

section
variable {B : Tb} {X : Cx} {Wx : WX} {n : Nat} {sc : Sc} {pos p apos : Pos} {e ea eb ec tg : Expr} {a b c : E} {es : Es} {xs : List Expr}
/-- one turn of a dict comprehension -/
def turnD (T : Pg) (cf : CF) (env : En) (tg : Tg) (own : List Nat) (ifs : Es) (k v : E) (x : W) (m : Mem) : Out (Option (W × W)) := match bindT tg x (wipeE env own) with
  | some env' => (evIf T cf env' ifs m).bind fun b m1 => match b with
    | true => (evE T cf env' k m1).bind fun r m2 => (match esc r with
      | some w => if isKey false w = true then (evE T cf env' v m2).bind fun r2 m3 => (match esc r2 with | some w2 => .ok (some (w, w2)) m3 | none => .stuck) else .stuck
      | none => .stuck)
    | false => .ok none m1
  | none => .stuck
abbrev relO2 (B : Tb) : Gh → Hp → Option (W × W) → Option (Key × V) → Prop := fun g' _ w v => match w, v with | some w, some v => w.1 = kW v.1 ∧ VR B g'.G g'.ρ w.2 v.2 | none, none => True | _, _ => False
/-- the pairs from the i-th on are put behind those of acc -/
def PvD (B : Tb) (Wx : WX) (gs : Gh) (Hs : Hp) (g1 : Gh) (H1 : Hp) (D : Addr) (env : En) (σ : L2.St) (xs : List W) (src : Src) (f : W → Mem → Out (Option (W × W))) (Q : VK) (i : Nat) (H : Hp) : Prop :=
  ∃ g m acc kvs, Ev g1 H1 g H ∧ MR B g m H ∧ g.G D = none ∧ D ∉ g.ρ ∧ H D = some (.dK kvs) ∧ (dmerge acc).1 = kvs.map (fun p => kW p.1) ∧ VRs B g.G g.ρ (dmerge acc).2 (kvs.map (·.2)) ∧ kvs.length ≤ i ∧
    OkG B gs Hs (relR B env σ Hs) ((compL (fun x m => noX (f x m)) src (xs.drop i) m).bind fun ps m2 => .ok (.new (.dct false (dmerge (acc ++ ps)).1 (dmerge (acc ++ ps)).2)) m2) Q (fun c d H' => Wx c d σ H')
theorem dmerge_snoc (acc : List (W × W)) (p : W × W) : dmerge (acc ++ [p]) = dput p.1 p.2 (dmerge acc).1 (dmerge acc).2 := by
  unfold dmerge
  rw [List.foldl_append]
  rfl
theorem dcomp_red {tgi : Tg} {own : List (Str × Nat)} {it : Mi.It} {nn : Bool} {irIfs : Es} {irK irV : E} {σ : L2.St} {H : Hp} {Q : VK} (hsl : ∀ i ∈ tgi.slots, i ∈ own.map (·.2)) (h : tE B (cfN B.T n) Wx (.dcomp nn tgi (own.map (·.2)) it irIfs irK irV) σ H Q) :
    tDc (tI B (cfN B.T n) Wx it) (gB B tgi) (tIfs B (cfN B.T n) WxF irIfs) (tE B (cfN B.T n) WxF irK) (tE B (cfN B.T n) WxF irV) (own.map (·.2)) σ H Q := by
  obtain ⟨g, env, m, H0, M, R, h⟩ := h
  simp only [evE] at h
  refine ⟨g, env, m, H0, M, R, h.bind Ev.refl fun xp m1 g1 J H1 heq e1 e1' M1 wk h1 => ?_⟩
  have R1 : ER B g1 env σ H1 H0 := R.ev e1
  split at h1
  case isFalse => exact h1.elim
  rename_i hz
  have h1' : OkG B g H (relR B env σ H) ((compL (fun x m => noX (turnD B.T (cfN B.T n) env tgi (own.map (·.2)) irIfs irK irV x m)) xp.2 xp.1 m1).bind fun ps m2 => .ok (.new (.dct false (dmerge ps).1 (dmerge ps).2)) m2) Q (fun c d H' => Wx c d σ H') := h1
  intro Dd hD
  have gD : g1.G Dd = none := M1.gno hD
  have rD : Dd ∉ g1.ρ := M1.rno hD
  have e2 : Ev g1 H1 g1 (upd H1 Dd (.dK [])) := Ev.new hD
  refine ⟨fun i mm H' => mm = xp.1.length - i ∧ i ≤ xp.1.length ∧ PvD B Wx g H g1 H1 Dd env σ xp.1 xp.2 (turnD B.T (cfN B.T n) env tgi (own.map (·.2)) irIfs irK irV) Q i H', ⟨xp.1.length, by simp, Nat.zero_le _, g1, m1, [], [], e2, MR.new M1 hD, gD, rD, upd_same, rfl, VRs.nil, Nat.le_refl _, h1'⟩, ?_⟩
  rintro i mm H2 ⟨rfl, hile, g2, m2, acc, kvs, e3, M2, gD2, rD2, hD2, rk, rv, hal, h2⟩
  have hsrc := comp_src h2
  by_cases hlt : i < xp.1.length
  · refine .inr ⟨wk.goes i g2 m2 H2 e3.gk' M2 hsrc hlt, PvD B Wx g H g1 H1 Dd env σ xp.1 xp.2 (turnD B.T (cfN B.T n) env tgi (own.map (·.2)) irIfs irK irV) Q (i + 1), fun H' q => ⟨xp.1.length - (i + 1), by omega, rfl, hlt, q⟩, fun x H3 y => ?_⟩
    obtain ⟨g3, w, e4, M3, hw, hx⟩ := wk.yields i g2 m2 H2 x H3 e3.gk' M2 hsrc hlt y
    have hdrop : xp.1.drop i = w :: xp.1.drop (i + 1) := by
      rw [List.drop_eq_getElem_cons hlt]
      congr 1
      rw [List.getElem?_eq_getElem hlt] at hw
      exact Option.some.inj hw
    rw [hdrop] at h2
    unfold compL at h2
    rw [if_pos hsrc, Out.bind_as] at h2
    have e13 : Ev g H g3 H3 := e1.trans (e3.trans e4)
    have hD3 : H3 Dd = some (.dK kvs) := e4.keepOwn gD2 rD2 hD2
    have gD3 : g3.G Dd = none := e4.gno gD2 hD2
    have rD3 : Dd ∉ g3.ρ := e4.rno rD2 hD2
    have R3 : ER B g3 (wipeE env (own.map (·.2))) (L2.wipe σ (own.map (·.2))) H3 H0 := (R1.ev (e3.trans e4)).wipe _
    have turn : OkG B g3 H3 (relO2 B) (turnD B.T (cfN B.T n) env tgi (own.map (·.2)) irIfs irK irV w m2) (fun o H4 => match o with
        | some v => ∃ kvs', H4 Dd = some (.dK kvs') ∧ kvs'.length < sizeLine ∧ PvD B Wx g H g1 H1 Dd env σ xp.1 xp.2 (turnD B.T (cfN B.T n) env tgi (own.map (·.2)) irIfs irK irV) Q (i + 1) (upd H4 Dd (.dK (putK kvs' v.1 v.2)))
        | none => PvD B Wx g H g1 H1 Dd env σ xp.1 xp.2 (turnD B.T (cfN B.T n) env tgi (own.map (·.2)) irIfs irK irV) Q (i + 1) H4) (fun _ _ _ => False) := by
      refine noX_bind e13 h2 fun yo m4 g4 vo H4 heq4 e5 e5' M4 r4 h4 => ?_
      have hD4 : H4 Dd = some (.dK kvs) := e5'.keepOwn gD3 rD3 hD3
      have gD4 : g4.G Dd = none := e5'.gno gD3 hD3
      have rD4 : Dd ∉ g4.ρ := e5'.rno rD3 hD3
      have e14 : Ev g1 H1 g4 H4 := e3.trans (e4.trans e5')
      rw [Out.bind_as] at h4
      cases yo with
      | none =>
        cases vo with
        | some v => exact (r4 : False).elim
        | none => exact ⟨g4, m4, acc, kvs, e14, M4, gD4, rD4, hD4, rk, (e4.trans e5').vrs rv, by omega, h4⟩
      | some w2 =>
        cases vo with
        | none => exact (r4 : False).elim
        | some v =>
          obtain ⟨rk4, rv4⟩ := (r4 : w2.1 = kW v.1 ∧ VR B g4.G g4.ρ w2.2 v.2)
          have hlen : kvs.length < sizeLine := by
            have := hz.1
            omega
          have rv' := (e4.trans e5').vrs rv
          obtain ⟨d1, d2⟩ := dput_rel (q := v.1) rv4 rv'
          have em : dmerge (acc ++ [w2]) = dput (kW v.1) w2.2 (kvs.map fun p => kW p.1) (dmerge acc).2 := by
            rw [dmerge_snoc, rk4, rk]
          refine ⟨kvs, hD4, hlen, g4, m4, acc ++ [w2], putK kvs v.1 v.2, e14.ownWr hD Wr.upd, M4.ownWr gD4 rD4 Wr.upd, gD4, rD4, upd_same, by rw [em]; exact d1, by rw [em]; exact d2, ?_, ?_⟩
          · have := length_putK kvs v.1 v.2
            omega
          · have e : (fun (ws : List (W × W)) (m2 : Mem) => (Out.ok (RV.new (.dct false (dmerge (acc ++ [w2] ++ ws)).1 (dmerge (acc ++ [w2] ++ ws)).2)) m2 : Out RV)) = fun ws m2 => (Out.ok (w2 :: ws) m2 : Out (List (W × W))).bind fun ws m2 => Out.ok (RV.new (.dct false (dmerge (acc ++ ws)).1 (dmerge (acc ++ ws)).2)) m2 := by
              funext ws m2
              simp [Out.bind]
            rw [e]
            exact h4
    unfold turnD at turn
    split at turn
    · rename_i env' hb
      refine ⟨g3, _, m2, H0, w, env', M3, R3, hx, hb, fun σ2 R4 hwp => ⟨?_, ?_⟩⟩
      · rw [hwp _ hsl]
        exact wipe_twice _ _ fun _ h => h
      · refine ⟨g3, env', m2, H0, M3, R4, turn.bind Ev.refl fun k m5 g5 k' H5 heq5 e6 e6' M5 rk h5 => ?_⟩
        cases rk
        cases k with
        | false =>
          rw [if_neg Bool.false_ne_true]
          exact h5 g5 none H5 e6 M5 True.intro
        | true =>
          rw [if_pos rfl]
          refine tE_bindF M5 (R4.ev e6) e6 h5 fun rv2 m6 g6 v6 H6 heq6 e7 e7' M6 R6 fx h6 => ?_
          split at h6
          · rename_i w6 hw6
            split at h6
            · rename_i hkey
              obtain ⟨q6, hq1, hq2⟩ := keyV hkey (fx.esc hw6)
              refine tE_bindF M6 R6 e7 h6 fun rv3 m7 g7 v7 H7 heq7 e8 e8' M7 R7 fy h7 => ?_
              split at h7
              · rename_i w7 hw7
                obtain ⟨kvs', k1, k2, k3⟩ := h7 g7 (some (q6, v7)) H7 e8 M7 ⟨hq1, fy.esc hw7⟩
                exact ⟨kvs', q6, hq2, k1, k2, k3⟩
              · exact (h7 : False).elim
            · exact (h6 : False).elim
          · exact (h6 : False).elim
    · exact (turn : False).elim
  · have hi' : i = xp.1.length := by omega
    subst hi'
    refine .inl ⟨wk.stops g2 m2 H2 e3.gk' M2 hsrc, ?_⟩
    rw [List.drop_length] at h2
    unfold compL at h2
    rw [if_pos hsrc] at h2
    simp only [Out.bind, List.append_nil] at h2
    exact h2 g2 _ H2 (e1.trans e3) M2 ⟨Dd, rfl, gD2, rD2, ⟨kvs, rfl, hD2, rk, rv⟩, e1.none hD⟩
theorem e_dcomp {tgi : Tg} {own : List (Str × Nat)} {it : Mi.It} {nn : Bool} {iter kx vx : Expr} {ifs : List Expr} {irIfs : Es} {irK irV : E} {scope : Scope} (D : Gd B sc X Wx n) (hi : PI X tg iter (tI B (cfN B.T n) Wx it)) (ok : BlkOk X.N X.env.scope scope own)
    (hset : noSet iter = true) (htg : tgB (sc.blk scope) tgi tg = true) (hsl : ∀ i ∈ tgi.slots, i ∈ own.map (·.2))
    (hifs : ∀ (X' : Cx), Gd B (sc.blk scope) X' WxF n → PTs X' ifs (tIfs B (cfN B.T n) WxF irIfs)) (hk : ∀ (X' : Cx), Gd B (sc.blk scope) X' WxF n → PEm B X' WxF n kx irK) (hv : ∀ (X' : Cx), Gd B (sc.blk scope) X' WxF n → PEm B X' WxF n vx irV) :
    PEm B X Wx n (.DictComp kx vx [⟨tg, iter, ifs, 0⟩] scope pos) (.dcomp nn tgi (own.map (·.2)) it irIfs irK irV) :=
  PE.mono (pe_dc D.calm D.nd hi ok (fun s H C cl fp => tg_ok (D.blk scope s H C cl fp) htg) (fun s H C cl fp => hifs _ (D.blk scope s H C cl fp)) (fun s H C cl fp => hk _ (D.blk scope s H C cl fp)) (fun s H C cl fp => hv _ (D.blk scope s H C cl fp)) (folded_ok hset)) fun σ H Q h => dcomp_red hsl h
end
end Mi

set_option Elab.async false
set_option linter.all false
set_option maxRecDepth 100000
set_option maxHeartbeats 1000000
/-! Mi27: statements. -/
namespace Mi
open PySem PySem.Spec L2
open PyProof.Rows (Fr News envOfC)

/-- .. with a ground gb whose frozen things stay -/
structure Ev2 (g0 : Gh) (H0 : Hp) (gb g : Gh) (H : Hp) : Prop where
  e : Ev g0 H0 g H
  k : Gk gb g
theorem Ev2.trans {g0 gb g g' : Gh} {H0 H H' : Hp} (a : Ev2 g0 H0 gb g H) (b : Ev g H g' H') : Ev2 g0 H0 gb g' H' := ⟨a.e.trans b, a.k.trans b.gk'⟩
theorem Ev2.none {g0 gb g : Gh} {H0 H : Hp} (a : Ev2 g0 H0 gb g H) {x : Addr} (h : H x = Option.none) : H0 x = Option.none := a.e.none h
theorem Ev2.grd {g0 gb gc g : Gh} {H0 H : Hp} (a : Ev2 g0 H0 gc g H) (k : Gk gb gc) : Ev2 g0 H0 gb g H := ⟨a.e, k.trans a.k⟩
/-- a statement's outcome, seen from the def's entry (g0, H0) -/
def SOk (B : Tb) (Wx : WX) (g0 : Gh) (H0 : Hp) (gb : Gh) (r : SR) (D : Ends) : Prop := match r with
  | .next env' m' => ∀ g' σ' H', Ev2 g0 H0 gb g' H' → MR B g' m' H' → ER B g' env' σ' H' H0 → D.nx σ' H'
  | .brk env' m' => ∀ g' σ' H', Ev2 g0 H0 gb g' H' → MR B g' m' H' → ER B g' env' σ' H' H0 → D.bk σ' H'
  | .cont env' m' => ∀ g' σ' H', Ev2 g0 H0 gb g' H' → MR B g' m' H' → ER B g' env' σ' H' H0 → D.ct σ' H'
  | .ret rv m' => ∀ g' v H', Ev2 g0 H0 gb g' H' → MR B g' m' H' → RR B g' [] [] H' H0 rv v → D.rt v H'
  | .exc x env' m' => ∀ g' σ' H' cls d, Ev2 g0 H0 gb g' H' → MR B g' m' H' → ER B g' env' σ' H' H0 → XR B g' H' H0 x cls d → Wx cls d σ' H'
  | .stuck => False
def tS (B : Tb) (cf : CF) (Wx : WX) (ir : S) : TS := fun D σ H => ∃ g0 H0 gb g env m, Ev2 g0 H0 gb g H ∧ MR B g m H ∧ ER B g env σ H H0 ∧ SOk B Wx g0 H0 gb (evS B.T cf ir env m) D
def tSs (B : Tb) (cf : CF) (Wx : WX) (ir : Ss) : TS := fun D σ H => ∃ g0 H0 gb g env m, Ev2 g0 H0 gb g H ∧ MR B g m H ∧ ER B g env σ H H0 ∧ SOk B Wx g0 H0 gb (evSs B.T cf ir env m) D
section
variable {B : Tb} {X : Cx} {Wx : WX} {n : Nat} {sc : Sc} {pos p apos : Pos} {e ea eb ec tg : Expr} {a b c : E} {es : Es} {xs : List Expr} {st : Stmt} {sts : List Stmt} {s : S} {ss : Ss}
abbrev PSm (B : Tb) (X : Cx) (Wx : WX) (n : Nat) (st : Stmt) (s : S) : Prop := PS X st (tS B (cfN B.T n) Wx s)
abbrev PSsm (B : Tb) (X : Cx) (Wx : WX) (n : Nat) (sts : List Stmt) (ss : Ss) : Prop := PSs X sts (tSs B (cfN B.T n) Wx ss)
/-- an expression within a statement -/
theorem toS_ok {α β : Type} {g0 gb g : Gh} {H0 H : Hp} {env : En} {σ : L2.St} {rel : Gh → Hp → α → β → Prop} {r : Out α} {f : α → Mem → SR} {D : Ends} {Q1 : β → Hp → Prop} (ev : Ev2 g0 H0 gb g H) (R : ER B g env σ H H0) (h : SOk B Wx g0 H0 gb (toS env r f) D)
    (K : ∀ x m1 g1 y H1, Ev2 g0 H0 gb g1 H1 → Ev g H g1 H1 → MR B g1 m1 H1 → ER B g1 env σ H1 H0 → rel g1 H1 x y → SOk B Wx g0 H0 gb (f x m1) D → Q1 y H1) : OkG B g H rel r Q1 (fun c d H' => Wx c d σ H') := by
  cases r with
  | ok x m1 => exact fun g1 y H1 e M q => K x m1 g1 y H1 (ev.trans e) e M (R.ev e) q h
  | exc x m1 => exact fun g1 H1 c d e M q => h g1 σ H1 c d (ev.trans e) M (R.ev e) (q.back ev.e)
  | stuck => exact h
/-- .. its result unfrozen -/
theorem toS_E {g0 gb g : Gh} {H0 H : Hp} {env : En} {σ : L2.St} {m : Mem} {f : RV → Mem → SR} {D : Ends} {Kt : VK} (ev : Ev2 g0 H0 gb g H) (M : MR B g m H) (R : ER B g env σ H H0) (h : SOk B Wx g0 H0 gb (toS env (evE B.T (cfN B.T n) env a m) f) D)
    (K : ∀ rv m1 g1 v H1, Ev2 g0 H0 gb g1 H1 → Ev g H g1 H1 → MR B g1 m1 H1 → ER B g1 env σ H1 H0 → RR B g1 env σ H1 H rv v → SOk B Wx g0 H0 gb (f rv m1) D → Kt v H1) : tE B (cfN B.T n) Wx a σ H Kt :=
  ⟨g, env, m, H0, M, R, toS_ok ev R h K⟩
/-- .. frozen -/
theorem toS_F {g0 gb g : Gh} {H0 H : Hp} {env : En} {σ : L2.St} {m : Mem} {f : RV → Mem → SR} {D : Ends} {Kt : VK} (ev : Ev2 g0 H0 gb g H) (M : MR B g m H) (R : ER B g env σ H H0) (h : SOk B Wx g0 H0 gb (toS env (evE B.T (cfN B.T n) env a m) f) D)
    (K : ∀ rv m1 g1 v H1, Ev2 g0 H0 gb g1 H1 → Ev g H g1 H1 → MR B g1 m1 H1 → ER B g1 env σ H1 H0 → FR B g1 env σ rv v → SOk B Wx g0 H0 gb (f rv m1) D → Kt v H1) : tE B (cfN B.T n) Wx a σ H Kt :=
  toS_E ev M R h fun rv m1 g1 v H1 e1 e2 M1 R1 r h1 => by
    obtain ⟨g2, k1, k2, k3⟩ := FR.of M1 e2 r
    exact K rv m1 g2 v H1 (ev.trans k1) k1 k2 (R.ev k1) k3 h1
theorem s_pass : PSm B X Wx n (.Pass pos) .pass := PS.mono ps_pass fun D σ H h => by
  obtain ⟨g0, H0, gb, g, env, m, ev, M, R, h⟩ := h
  simp only [evS] at h
  exact h g σ H ev M R
theorem s_brk : PSm B X Wx n (.Break pos) .brk := PS.mono ps_break fun D σ H h => by
  obtain ⟨g0, H0, gb, g, env, m, ev, M, R, h⟩ := h
  simp only [evS] at h
  exact h g σ H ev M R
theorem s_cont : PSm B X Wx n (.Continue pos) .cont := PS.mono ps_continue fun D σ H h => by
  obtain ⟨g0, H0, gb, g, env, m, ev, M, R, h⟩ := h
  simp only [evS] at h
  exact h g σ H ev M R
theorem s_retN : PSm B X Wx n (.Return none pos) .retN := PS.mono ps_retN fun D σ H h => by
  obtain ⟨g0, H0, gb, g, env, m, ev, M, R, h⟩ := h
  simp only [evS] at h
  exact h g .non H ev M rfl
theorem s_expr (ha : PEm B X Wx n ea a) (hs : noComp ea = true) : PSm B X Wx n (.Expr ea pos) (.expr a) := PS.mono (ps_expr ha (swaps_ok hs)) fun D σ H h => by
  obtain ⟨g0, H0, gb, g, env, m, ev, M, R, h⟩ := h
  simp only [evS] at h
  exact toS_F ev M R h fun rv m1 g1 v H1 e1 e2 M1 R1 fx h1 => h1 g1 σ H1 e1 M1 R1
theorem s_ret (ha : PEm B X Wx n ea a) : PSm B X Wx n (.Return (some ea) pos) (.ret a) := PS.mono (ps_ret ha) fun D σ H h => by
  obtain ⟨g0, H0, gb, g, env, m, ev, M, R, h⟩ := h
  simp only [evS] at h
  refine toS_E ev M R h fun rv m1 g1 v H1 e1 e2 M1 R1 r h1 => ?_
  cases rv with
  | val w => exact h1 g1 v H1 e1 M1 r
  | new ob =>
    obtain ⟨ad, h2, h3, h4, h5, h6⟩ := r
    exact h1 g1 v H1 e1 M1 ⟨ad, h2, h3, h4, h5, ev.none h6⟩
  | own i =>
    obtain ⟨hs, ob, ho⟩ := r
    simp only [retV, ho] at h1
    obtain ⟨ad, k1, k2, k3, k4, k5⟩ := R1.own i ob ho
    rw [hs] at k1
    cases k1
    exact h1 g1 _ H1 e1 M1 ⟨ad, rfl, k2, k3, k4, k5⟩
theorem s_nil : PSsm B X Wx n [] .nil := PSs.mono pss_nil fun D σ H h => by
  obtain ⟨g0, H0, gb, g, env, m, ev, M, R, h⟩ := h
  simp only [evSs] at h
  exact h g σ H ev M R
theorem s_cons (h1 : PSm B X Wx n st s) (h2 : PSsm B X Wx n sts ss) : PSsm B X Wx n (st :: sts) (.cons s ss) := PSs.mono (pss_cons h1 h2) fun D σ H h => by
  obtain ⟨g0, H0, gb, g, env, m, ev, M, R, h⟩ := h
  simp only [evSs] at h
  refine ⟨g0, H0, gb, g, env, m, ev, M, R, ?_⟩
  cases q : evS B.T (cfN B.T n) s env m with
  | next env' m' =>
    rw [q] at h
    exact fun g' σ' H' e M' R' => ⟨g0, H0, gb, g', env', m', e, M', R', h⟩
  | brk env' m' => rw [q] at h; exact h
  | cont env' m' => rw [q] at h; exact h
  | ret rv m' => rw [q] at h; exact h
  | exc x env' m' => rw [q] at h; exact h
  | stuck => rw [q] at h; exact h
end
end Mi

set_option Elab.async false
set_option linter.all false
set_option maxRecDepth 100000
set_option maxHeartbeats 1000000
/-! Mi28: if, assignments. -/
namespace Mi
open PySem PySem.Spec L2
open PyProof.Rows (Fr News envOfC)

section
variable {B : Tb} {X : Cx} {Wx : WX} {n : Nat} {sc : Sc} {pos p apos : Pos} {e ea eb ec tg : Expr} {a b c : E} {es : Es} {xs : List Expr} {st : Stmt} {sts sts' : List Stmt} {s : S} {ss ss' : Ss}
theorem s_ite (hc : PTm B X Wx n ec c) (h1 : PSsm B X Wx n sts ss) (h2 : PSsm B X Wx n sts' ss') : PSm B X Wx n (.If ec sts sts' pos) (.ite c ss ss') := PS.mono (ps_if hc h1 h2) fun D σ H h => by
  obtain ⟨g0, H0, gb, g, env, m, ev, M, R, h⟩ := h
  simp only [evS] at h
  refine ⟨g, env, m, H0, M, R, ?_⟩
  unfold evT
  cases q : evE B.T (cfN B.T n) env c m with
  | stuck => rw [q] at h; exact h
  | exc x m' =>
    rw [q] at h
    exact fun g1 H1 c d e M q => h g1 σ H1 c d (ev.trans e) M (R.ev e) (q.back ev.e)
  | ok rv m' =>
    rw [q] at h
    rcases rv with w | o | i
    · cases w with
      | bl k =>
        intro g' y H' e M' r
        cases r
        cases k with
        | true => exact ⟨g0, H0, gb, g', env, m', ev.trans e, M', R.ev e, h⟩
        | false => exact ⟨g0, H0, gb, g', env, m', ev.trans e, M', R.ev e, h⟩
      | _ => exact (h : False).elim
    · exact (h : False).elim
    · exact (h : False).elim
/-- a name is set to a thing of one's own -/
theorem ER.setOwn {g : Gh} {env : List Sl} {σ : List (Option V)} {H H0 : Hp} {i : Nat} {ob : Ob} {ad : Addr} (R : ER B g env σ H H0) (hi : i < env.length) (h1 : g.G ad = none) (h2 : ad ∉ g.ρ) (h3 : OR B g.G g.ρ H ob ad) (h4 : H0 ad = none)
    (hne : ∀ (j : Nat) (o : Ob), i ≠ j → env[j]? = some (.own o) → σ[j]? ≠ some (some (.ref ad))) (hk : ∀ c fs, ob ≠ .ins c fs) : ER B g (env.set i (.own ob)) (σ.set i (some (.ref ad))) H H0 where
  len := by rw [List.length_set, List.length_set]; exact R.len
  val := fun j x e => by
    by_cases hj : i = j
    · subst hj
      rw [List.getElem?_set_self hi] at e
      cases e
    · rw [List.getElem?_set_ne hj] at e ⊢
      exact R.val j x e
  own := fun j x e => by
    by_cases hj : i = j
    · subst hj
      rw [List.getElem?_set_self hi] at e
      cases e
      exact ⟨ad, List.getElem?_set_self (by rw [← R.len]; exact hi), h1, h2, h3, h4⟩
    · rw [List.getElem?_set_ne hj] at e ⊢
      exact R.own j x e
  ond := fun j k oj ok c e1 e2 s1 s2 => by
    have hi' : i < σ.length := by rw [← R.len]; exact hi
    by_cases hj : i = j
    · by_cases hk : i = k
      · exact hj.symm.trans hk
      · subst hj
        rw [List.getElem?_set_self hi'] at s1
        cases s1
        rw [List.getElem?_set_ne hk] at e2 s2
        exact absurd s2 (hne k ok hk e2)
    · by_cases hk : i = k
      · subst hk
        rw [List.getElem?_set_self hi'] at s2
        cases s2
        rw [List.getElem?_set_ne hj] at e1 s1
        exact absurd s1 (hne j oj hj e1)
      · rw [List.getElem?_set_ne hj] at e1 s1
        rw [List.getElem?_set_ne hk] at e2 s2
        exact R.ond j k oj ok c e1 e2 s1 s2
  slf := fun j c fs b e1 e2 => by
    by_cases hj : i = j
    · subst hj
      rw [List.getElem?_set_self hi] at e1
      cases e1
      exact absurd rfl (hk c fs)
    · rw [List.getElem?_set_ne hj] at e1 e2
      exact R.slf j c fs b e1 e2
/-- a result is stored -/
theorem setOwn_ok {g0 gb g g1 : Gh} {H0 H H1 : Hp} {env env' : En} {σ : L2.St} {m1 : Mem} {i : Nat} {own : Bool} {rv : RV} {v : V} {D : Ends} (ev : Ev2 g0 H0 gb g H) (R : ER B g env σ H H0) (e2 : Ev g H g1 H1) (M1 : MR B g1 m1 H1) (r : RR B g1 env σ H1 H rv v) (hs : setOwn env i own rv = some env')
    (h : SOk B Wx g0 H0 gb (.next env' m1) D) : D.nx (σ.set i (some v)) H1 := by
  unfold setOwn at hs
  split at hs
  · rename_i hi
    cases own with
    | true =>
      rw [if_pos rfl] at hs
      split at hs
      · cases hs
      · rename_i o hno
        cases hs
        obtain ⟨ad, rfl, k1, k2, k3, k4⟩ := r
        refine h g1 _ H1 (ev.trans e2) M1 ((R.ev e2).setOwn hi k1 k2 k3 (ev.none k4) (fun j o' hj he hσ => ?_) (fun c fs z => hno c fs (by rw [z])))
        obtain ⟨b, hb, _, _, hO, _⟩ := R.own j o' he
        rw [hσ] at hb
        cases hb
        obtain ⟨u, hu⟩ := hO.there
        rw [k4] at hu
        cases hu
      · cases hs
    | false =>
      rw [if_neg Bool.false_ne_true] at hs
      split at hs
      · rename_i w hw
        cases hs
        obtain ⟨g2, k1, k2, k3⟩ := esc_ok M1 e2 r hw
        exact h g2 _ H1 (ev.trans k1) k2 ((R.ev k1).setVal hi k3)
      · cases hs
  · cases hs
theorem set_red {i : Nat} {own : Bool} {D : Ends} {σ : L2.St} {H : Hp} (h : tS B (cfN B.T n) Wx (.set i own a) D σ H) : tAsg (tE B (cfN B.T n) Wx a) (gName i) D σ H := by
  obtain ⟨g0, H0, gb, g, env, m, ev, M, R, h⟩ := h
  simp only [evS] at h
  refine toS_E ev M R h fun rv m1 g1 v H1 e1 e2 M1 R1 r h1 => ?_
  split at h1
  · rename_i env' hs
    exact setOwn_ok ev R e2 M1 r hs h1
  · exact h1.elim
theorem name_parts {i : Nat} (D : Gd B sc X Wx n) (h : nameB sc i e = true) : ∃ x p, e = .Name x p ∧ X.N[i]? = some x ∧ Loc X.env.scope x ∧ (X.fn x = true ∨ X.env.scope.names.lookup x = some .local) := by
  unfold nameB at h
  split at h
  · rename_i x p
    simp only [Bool.and_eq_true, decide_eq_true_eq] at h
    obtain ⟨h1, h2⟩ := loc_ok D h.2
    exact ⟨x, p, rfl, by rw [D.N]; exact h.1, h1, h2⟩
  · cases h
theorem s_set {i : Nat} {own : Bool} (D : Gd B sc X Wx n) (ht : nameB sc i ea = true) (ha : PEm B X Wx n eb b) (hs : noComp eb = true) : PSm B X Wx n (.Assign [ea] eb pos) (.set i own b) := by
  obtain ⟨x, p, rfl, h1, h2, h3⟩ := name_parts D ht
  exact PS.mono (ps_set D.nd h1 h2 ha (swaps_ok hs) h3) fun D σ H h => set_red h
end
end Mi

set_option Elab.async false
set_option linter.all false
set_option maxRecDepth 100000
set_option maxHeartbeats 1000000
/-! Mi29: comprehensions that are assigned. -/
namespace Mi
open PySem PySem.Spec L2
open PyProof.Rows (Fr News envOfC)

section
variable {X : Cx}
/-- name = {..} on one line, the name a local -/
theorem ps_setDc {i : Nat} {y : Str} {py : Pos} {kx vx tg iter : Expr} {ifs : List Expr} {scope : Scope} {own : List (Str × Nat)} {pos spos : Pos} {wi : TI} {g : TG} {tt : TT} {tk tv : TE} (hc : X.calm = true) (hN : X.N.Nodup) (hy : X.N[i]? = some y) (hyl : X.env.scope.names.lookup y = some .local)
    (hsw : swapsWith (.DictComp kx vx [⟨tg, iter, ifs, 0⟩] scope pos) (some (.Name y py)) spos.line X.env = pure true) (hi : PI X tg iter wi) (ok : BlkOk X.N X.env.scope scope own)
    (hg : ∀ (s : Shared) (H : Hp) (C : Addr) (cl : List (Str × Addr)) (fp : List Addr), PG (X.blk s H scope (compEnvC scope cl C X.env) fp) tg g) (ht : ∀ (s : Shared) (H : Hp) (C : Addr) (cl : List (Str × Addr)) (fp : List Addr), PTs (X.blk s H scope (compEnvC scope cl C X.env) fp) ifs tt)
    (hk : ∀ (s : Shared) (H : Hp) (C : Addr) (cl : List (Str × Addr)) (fp : List Addr), PE (X.blk s H scope (compEnvC scope cl C X.env) fp) kx tk)
    (he : ∀ (s : Shared) (H : Hp) (C : Addr) (cl : List (Str × Addr)) (fp : List Addr), PE (X.blk s H scope (compEnvC scope cl C X.env) fp) vx tv) (hs : ∀ x, foldedSetIterable iter X.env x = pure x) :
    PS X (.Assign [.Name y py] (.DictComp kx vx [⟨tg, iter, ifs, 0⟩] scope pos) spos) (tAsg (tDc wi g tt tk tv (own.map (·.2))) (gName i)) := by
  refine ⟨fun pins s σ H D I h => ?_⟩
  rw [exec_Assign_Name_used _ _ _ _ hsw]
  refine wpAny_bind (wpAny_standAt (wpAny_bind ?_))
  show wpAny _ X.A (do let _ ← comprehension (.DictComp kx vx [⟨tg, iter, ifs, 0⟩] scope pos) scope X.env (firstIterPos [⟨tg, iter, ifs, 0⟩] pos) newDict false (eval iter X.env) (some (assign (.Name y py) X.env))) _ _ s
  have h : tDc wi g tt tk tv (own.map (·.2)) σ H (fun x H1 => gName i x σ H1 D.nx) := h
  refine wpAny_bind (thn (dc_core (Qf := fun _ s' => SP X pins D .next s') hc hN I hi ok hg ht hk he hs h fun L C s' m H' I' q hn f => ?_) fun _ s' hq => wpAny_pure (wpAny_pure hq))
  show wpAny _ _ (assign (.Name y py) X.env (.ref L)) _ _ _
  refine wpAny_assign_Name (store_ok2 (v := V.ref L) I' hN hy (.inl hyl) rfl (fun s2 I2 ⟨a, sb, ha⟩ => ?_) (.inr hyl))
  obtain ⟨f0, f1, f2, f3, f4, f5⟩ := f
  have haC : C ≠ a := by
    rcases ha with z | z
    · rw [z]; exact f1
    · exact fun e => f4 y a z e.symm
  refine ⟨m, hn.sameBut sb haC, fun h3 sb3 => ?_⟩
  exact ⟨_, H', I2.turned (t' := s2.toks) (fun b o hb e => (sb3.2 b hb).trans e) f0 f1 f3 f4 f5, q⟩
/-- whether a comprehension's value is stored ahead of its variables' end -/
def swB (sc scope : Scope) (y : Str) (l : Bool) : Bool := (match sc.names.lookup y with | some .local => true | _ => false) && l && !(scope.names.any fun (n, k) => n == y && (k == .local || k == .cell))
theorem sw_lc {elt : Expr} {gs : List Comprehension} {scope : Scope} {pos py : Pos} {y : Str} {l : Nat} {env : Env} (hk : env.scope.kind = .function) :
    swapsWith (.ListComp elt gs scope pos) (some (.Name y py)) l env = pure (swB env.scope scope y (py.line == pos.line)) := by
  have hb : env.blockKind = .function := by unfold Env.blockKind; rw [hk]; rfl
  unfold swapsWith swB
  simp only [hb, Expr.pos]
  have ky : env.kindOf y = env.scope.names.lookup y := rfl
  rw [ky]
  cases env.scope.names.lookup y with
  | none => rfl
  | some k => cases k <;> rfl
theorem sw_dc {kx vx : Expr} {gs : List Comprehension} {scope : Scope} {pos py : Pos} {y : Str} {l : Nat} {env : Env} (hk : env.scope.kind = .function) :
    swapsWith (.DictComp kx vx gs scope pos) (some (.Name y py)) l env = pure (swB env.scope scope y (py.line == pos.line)) := by
  have hb : env.blockKind = .function := by unfold Env.blockKind; rw [hk]; rfl
  unfold swapsWith swB
  simp only [hb, Expr.pos]
  have ky : env.kindOf y = env.scope.names.lookup y := rfl
  rw [ky]
  cases env.scope.names.lookup y with
  | none => rfl
  | some k => cases k <;> rfl
theorem swB_local {sc scope : Scope} {y : Str} {l : Bool} (h : swB sc scope y l = true) : sc.names.lookup y = some .local := by
  unfold swB at h
  simp only [Bool.and_eq_true] at h
  obtain ⟨⟨h1, _⟩, _⟩ := h
  split at h1
  · assumption
  · cases h1
end
section
variable {B : Tb} {X : Cx} {Wx : WX} {n : Nat} {sc : Sc} {pos spos p apos : Pos} {e ea eb ec tg : Expr} {a b c : E} {es : Es} {xs : List Expr}
theorem s_setLc {ir : E} {i : Nat} {ow : Bool} {tgi : Tg} {own : List (Str × Nat)} {it : Mi.It} {iter elt : Expr} {ifs : List Expr} {irIfs : Es} {irE : E} {scope : Scope} (D : Gd B sc X Wx n) (red : ∀ σ H Q, tE B (cfN B.T n) Wx ir σ H Q → tE B (cfN B.T n) Wx (.comp tgi (own.map (·.2)) it irIfs irE) σ H Q) (hk : sc.scope.kind = .function) (hn : nameB sc i ea = true)  (hi : PI X tg iter (tI B (cfN B.T n) Wx it)) (ok : BlkOk X.N X.env.scope scope own)
    (hset : noSet iter = true) (htg : tgB (sc.blk scope) tgi tg = true) (hsl : ∀ i ∈ tgi.slots, i ∈ own.map (·.2))
    (hifs : ∀ (X' : Cx), Gd B (sc.blk scope) X' WxF n → PTs X' ifs (tIfs B (cfN B.T n) WxF irIfs)) (he : ∀ (X' : Cx), Gd B (sc.blk scope) X' WxF n → PEm B X' WxF n elt irE) :
    PSm B X Wx n (.Assign [ea] (.ListComp elt [⟨tg, iter, ifs, 0⟩] scope pos) spos) (.set i ow ir) := by
  obtain ⟨x, p, rfl, h1, h2, h3⟩ := name_parts D hn
  have hk' : X.env.scope.kind = .function := by rw [D.sco]; exact hk
  cases hsw : swB X.env.scope scope x (p.line == pos.line) with
  | true =>
    exact PS.mono (ps_setLc D.calm D.nd h1 (swB_local hsw) (by rw [sw_lc hk', hsw]) hi ok (fun s H C cl fp => tg_ok (D.blk scope s H C cl fp) htg) (fun s H C cl fp => hifs _ (D.blk scope s H C cl fp)) (fun s H C cl fp => he _ (D.blk scope s H C cl fp)) (folded_ok hset))
      fun Dd σ H h => comp_red hsl (red _ _ _ (set_red h))
  | false => exact PS.mono (ps_set D.nd h1 h2 (PE.mono (e_comp D hi ok hset htg hsl hifs he) red) (by rw [sw_lc hk', hsw]) h3) fun Dd σ H h => set_red h
theorem s_setDc {ir : E} {i : Nat} {ow nn : Bool} {tgi : Tg} {own : List (Str × Nat)} {it : Mi.It} {iter kx vx : Expr} {ifs : List Expr} {irIfs : Es} {irK irV : E} {scope : Scope} (D : Gd B sc X Wx n) (red : ∀ σ H Q, tE B (cfN B.T n) Wx ir σ H Q → tE B (cfN B.T n) Wx (.dcomp nn tgi (own.map (·.2)) it irIfs irK irV) σ H Q) (hk : sc.scope.kind = .function) (hn : nameB sc i ea = true)  (hi : PI X tg iter (tI B (cfN B.T n) Wx it)) (ok : BlkOk X.N X.env.scope scope own)
    (hset : noSet iter = true) (htg : tgB (sc.blk scope) tgi tg = true) (hsl : ∀ i ∈ tgi.slots, i ∈ own.map (·.2))
    (hifs : ∀ (X' : Cx), Gd B (sc.blk scope) X' WxF n → PTs X' ifs (tIfs B (cfN B.T n) WxF irIfs)) (hkk : ∀ (X' : Cx), Gd B (sc.blk scope) X' WxF n → PEm B X' WxF n kx irK) (hvv : ∀ (X' : Cx), Gd B (sc.blk scope) X' WxF n → PEm B X' WxF n vx irV) :
    PSm B X Wx n (.Assign [ea] (.DictComp kx vx [⟨tg, iter, ifs, 0⟩] scope pos) spos) (.set i ow ir) := by
  obtain ⟨x, p, rfl, h1, h2, h3⟩ := name_parts D hn
  have hk' : X.env.scope.kind = .function := by rw [D.sco]; exact hk
  cases hsw : swB X.env.scope scope x (p.line == pos.line) with
  | true =>
    exact PS.mono (ps_setDc D.calm D.nd h1 (swB_local hsw) (by rw [sw_dc hk', hsw]) hi ok (fun s H C cl fp => tg_ok (D.blk scope s H C cl fp) htg) (fun s H C cl fp => hifs _ (D.blk scope s H C cl fp)) (fun s H C cl fp => hkk _ (D.blk scope s H C cl fp)) (fun s H C cl fp => hvv _ (D.blk scope s H C cl fp)) (folded_ok hset))
      fun Dd σ H h => dcomp_red hsl (red _ _ _ (set_red h))
  | false => exact PS.mono (ps_set D.nd h1 h2 (PE.mono (e_dcomp D hi ok hset htg hsl hifs hkk hvv) red) (by rw [sw_dc hk', hsw]) h3) fun Dd σ H h => set_red h
end
end Mi

set_option Elab.async false
set_option linter.all false
set_option maxRecDepth 100000
set_option maxHeartbeats 1000000
/-! Mi30: statements, second part. -/
namespace Mi
open PySem PySem.Spec L2
open PyProof.Rows (Fr News envOfC)

section
variable {B : Tb} {X : Cx} {Wx : WX} {n : Nat} {sc : Sc} {pos spos p apos : Pos} {e ea eb ec tg : Expr} {a b c : E} {es : Es} {xs : List Expr} {st : Stmt} {sts sts' : List Stmt} {s : S} {ss ss' : Ss}
/-- a thing of one's own is given up -/
theorem frz_env {g0 gb g : Gh} {H0 H : Hp} {env : En} {σ : L2.St} {m : Mem} {i : Nat} {ob : Ob} (ev : Ev2 g0 H0 gb g H) (M : MR B g m H) (R : ER B g env σ H H0) (hi : env[i]? = some (.own ob)) :
    ∃ g', Ev2 g0 H0 gb g' H ∧ MR B g' m H ∧ ER B g' (env.set i (.val ob.w)) σ H H0 := by
  obtain ⟨ad, k1, k2, k3, k4, k5⟩ := R.own i ob hi
  obtain ⟨g2, r, q1, q2, vr, M2⟩ := frz_ok M k2 k3 k4
  have il : i < env.length := (List.getElem?_eq_some_iff.mp hi).1
  have gs : Gs g.G g2.G := Gs.of q1
  have rs : ∃ t, g2.ρ = g.ρ ++ t := ⟨[], by rw [r]; simp⟩
  refine ⟨g2, ⟨⟨ev.e.gk.trans gs, by rw [r]; exact ev.e.rk, fun b o z => ?_, by rw [r]; exact ev.e.rn, fun b o z z' => ?_, ev.e.dom⟩, ev.k.trans ⟨gs, rs⟩⟩, M2, ?_⟩
  · rcases q2 b o z with z | z
    · exact ev.e.gn b o z
    · exact .inr (z ▸ k5)
  · rcases ev.e.fr b o z z' with z | ⟨z1, u, z2⟩
    · exact .inl z
    · exact .inr ⟨z1, u, q1 b u z2⟩
  · refine ⟨by rw [List.length_set]; exact R.len, fun j w e => ?_, fun j x e => ?_, fun j k oj ok c e1 e2 s1 s2 => ?_, fun j c fs b e1 e2 => ?_⟩
    · by_cases hj : i = j
      · subst hj
        rw [List.getElem?_set_self il] at e
        cases e
        exact ⟨_, k1, vr⟩
      · rw [List.getElem?_set_ne hj] at e
        obtain ⟨v, h1, h2⟩ := R.val j w e
        exact ⟨v, h1, VR.up gs rs _ _ h2⟩
    · by_cases hj : i = j
      · subst hj
        rw [List.getElem?_set_self il] at e
        cases e
      · rw [List.getElem?_set_ne hj] at e
        obtain ⟨b, h1, h2, h3, h4, h5⟩ := R.own j x e
        refine ⟨b, h1, ?_, by rw [r]; exact h3, OR.up gs rs (fun _ z => z) h4, h5⟩
        cases z : g2.G b with
        | none => rfl
        | some u =>
          rcases q2 b u z with z | z
          · rw [h2] at z; cases z
          · subst z
            exact absurd (R.ond i j ob x b hi e k1 h1) hj
    · have tr : ∀ j oj, (env.set i (Sl.val ob.w))[j]? = some (Sl.own oj) → env[j]? = some (Sl.own oj) := fun j oj e => by
        by_cases hj : i = j
        · subst hj
          rw [List.getElem?_set_self il] at e
          cases e
        · rw [List.getElem?_set_ne hj] at e; exact e
      exact R.ond j k oj ok c (tr j oj e1) (tr k ok e2) s1 s2
    · by_cases hj : i = j
      · subst hj
        rw [List.getElem?_set_self il] at e1
        cases e1
      · rw [List.getElem?_set_ne hj] at e1
        exact R.slf j c fs b e1 e2
theorem s_frz {i : Nat} (h2 : PSsm B X Wx n sts ss) : PSsm B X Wx n sts (.cons (.frz i) ss) := PSs.mono h2 fun D σ H h => by
  obtain ⟨g0, H0, gb, g, env, m, ev, M, R, h⟩ := h
  simp only [evSs, evS] at h
  split at h
  · rename_i o ho
    obtain ⟨g', e1, M1, R1⟩ := frz_env ev M R ho
    exact ⟨g0, H0, gb, g', _, m, e1, M1, R1, h⟩
  · exact ⟨g0, H0, gb, g, env, m, ev, M, R, h⟩
  · exact h.elim

/-- a, b = e -/
def noTup : Expr → Bool | .Tuple .. => false | _ => true
theorem swS_ok {t v : Expr} {env : Env} (h : noTup v = true) : swappedStores [t] v env = pure none := by
  unfold swappedStores
  cases v <;> first | (cases h; done) | (cases t <;> rfl)
def isTup : Expr → Bool | .Tuple .. => true | _ => false
theorem swW_tup {v t : Expr} {l : Nat} {env : Env} (hv : noComp v = true) : swapsWithSole [t] v l env = pure false := by
  show swapsWith v (some t) l env = pure false
  exact swaps_ok hv
theorem tg_asg {tgi : Tg} {tg : Expr} {env : Env} (h : tgB sc tgi tg = true) : (assignEach [tg] env).map (·.2) = [assign tg env] := by
  cases tgi with
  | n i => cases tg <;> first | (cases h; done) | rfl
  | t is => cases tg <;> first | (cases h; done) | rfl
theorem s_setT {is : List Nat} (D : Gd B sc X Wx n) (ht : tgB sc (.t is) ea = true) (ha : PEm B X Wx n eb b) (hs : noComp eb = true) (hv : noTup eb = true) : PSm B X Wx n (.Assign [ea] eb pos) (.setT is b) :=
  PS.mono (ps_asg ha (tg_ok D ht) (swW_tup hs) (swS_ok hv) (tg_asg ht)) fun D σ H h => by
    obtain ⟨g0, H0, gb, g, env, m, ev, M, R, h⟩ := h
    simp only [evS] at h
    refine toS_F ev M R h fun rv m1 g1 v H1 e1 e2 M1 R1 fx h1 => ?_
    split at h1
    · rename_i w hw
      split at h1
      · rename_i env' hb
        exact ⟨g1, env, m1, H0, w, env', M1, R1, fx.esc hw, hb, fun σ' R' _ => h1 g1 σ' H1 e1 M1 R'⟩
      · exact h1.elim
    · exact h1.elim

/-! ### e.f = .. -/
theorem putF_zip : ∀ {fln : List Str} {vs : List V} {k : Nat} {f : Str} {v : V}, fln.Nodup → fln[k]? = some f → k < vs.length → putF f v (fln.zip vs) = fln.zip (vs.set k v)
  | [], _, _, _, _, _, h, _ => by simp at h
  | _ :: _, [], _, _, _, _, _, h => by simp at h
  | g :: fln, u :: vs, 0, f, v, nd, h1, _ => by
    simp at h1
    subst h1
    simp [putF]
  | g :: fln, u :: vs, k + 1, f, v, nd, h1, h2 => by
    have h1' : fln[k]? = some f := by simpa using h1
    have hne : g ≠ f := fun z => (List.nodup_cons.mp nd).1 (z ▸ List.mem_of_getElem? h1')
    have ih := putF_zip (f := f) (v := v) (List.nodup_cons.mp nd).2 h1' (by simpa using h2)
    simp only [List.zip_cons_cons, List.set_cons_succ]
    unfold putF
    rw [if_neg (by simpa using hne)]
    rw [ih]
theorem putF_app : ∀ {fln : List Str} {vs : List V} {f : Str} {v : V}, fln.Nodup → fln[vs.length]? = some f → putF f v (fln.zip vs) = fln.zip (vs ++ [v])
  | [], _, _, _, _, h => by simp at h
  | g :: fln, [], f, v, nd, h1 => by
    simp at h1
    subst h1
    simp [putF]
  | g :: fln, u :: vs, f, v, nd, h1 => by
    have h1' : fln[vs.length]? = some f := by simpa using h1
    have hne : g ≠ f := fun z => (List.nodup_cons.mp nd).1 (z ▸ List.mem_of_getElem? h1')
    have ih := putF_app (f := f) (v := v) (List.nodup_cons.mp nd).2 h1'
    simp only [List.zip_cons_cons, List.cons_append]
    unfold putF
    rw [if_neg (by simpa using hne)]
    rw [ih]
theorem setF_ok {G : Hp} {ρ : List Addr} {fs fs' : List W} {vs : List V} {k : Nat} {f : Str} {w : W} {v : V} {fln : List Str} (nd : fln.Nodup) (hf : fln[k]? = some f) (hl : fs.length ≤ fln.length) (hv : VRs B G ρ fs vs) (hw : VR B G ρ w v) (e : setF fs k w = some fs') :
    ∃ vs', putF f v (fln.zip vs) = fln.zip vs' ∧ fs'.length ≤ fln.length ∧ VRs B G ρ fs' vs' := by
  have kl : k < fln.length := (List.getElem?_eq_some_iff.mp hf).1
  unfold setF at e
  split at e
  · rename_i h
    cases e
    exact ⟨vs.set k v, putF_zip nd hf (by rw [← hv.length]; exact h), by rw [List.length_set]; exact hl, VRs.set hw k hv⟩
  · split at e
    · rename_i h1 h2
      cases e
      refine ⟨vs ++ [v], putF_app nd (by rw [← hv.length, ← h2]; exact hf), by rw [List.length_append]; simp; omega, VRs.app hv (VRs.cons hw VRs.nil)⟩
    · cases e
/-- a field is written -/
theorem setFld_ok {g0 gb g1 : Gh} {H0 H1 : Hp} {env : En} {σ : L2.St} {m1 : Mem} {k : Nat} {rx : RV} {x y : V} {w : W} {D : Ends} (Dg : Gd B sc X Wx n) (ev : Ev2 g0 H0 gb g1 H1) (M : MR B g1 m1 H1) (R : ER B g1 env σ H1 H0) (fx : FR B g1 env σ rx x) (hw : VR B g1.G g1.ρ w y)
    (h : SOk B Wx g0 H0 gb (setFld B.T env rx k w m1) D) : ∃ a C dx fs, x = .ref a ∧ H1 a = some (.ins C dx fs) ∧ Cls X.K C ∧ NoAttr X.K C (B.T.anm k) ∧ fs.length < 1000 ∧ D.nx σ (upd H1 a (.ins C dx (putF (B.T.anm k) y fs))) := by
  unfold setFld at h
  split at h
  · rename_i i
    split at h
    · rename_i c fs hi
      split at h
      case isFalse => exact h.elim
      rename_i hini
      obtain ⟨ii, hii⟩ := Option.isSome_iff_exists.mp hini
      obtain ⟨hc, _, _, _, hnd, hln⟩ := Dg.fc.cls c ii.1 ii.2.1 ii.2.2 hii
      split at h
      · rename_i j hj
        split at h
        · rename_i fs' hf
          obtain ⟨hs, ob, _⟩ := fx
          obtain ⟨ad, k1, k2, k3, k4, k5⟩ := R.own i _ hi
          rw [hs] at k1
          cases k1
          obtain ⟨dx, vs, q1, q2, q3⟩ := k4
          obtain ⟨hj1, hj2⟩ := Dg.fc.fld c k j hj
          obtain ⟨vs', p1, p2, p3⟩ := setF_ok hnd hj1 q2 q3 hw hf
          refine ⟨ad, _, dx, _, rfl, q1, by rw [Dg.K]; exact hc, by rw [Dg.K]; exact hj2 ⟨ii, hii⟩, by rw [List.length_zip]; omega, ?_⟩
          rw [p1]
          refine h g1 σ _ ⟨ev.e.ownWr k5 Wr.upd, ev.k⟩ (M.ownWr k2 k3 Wr.upd) ?_
          exact R.ownWr hi hs Wr.upd ⟨dx, vs', upd_same, p2, p3⟩ fun _ _ _ => ⟨_, _, rfl⟩
        · exact h.elim
      · exact h.elim
    · exact h.elim
  · rename_i i
    split at h
    · rename_i c fs hi
      split at h
      case isFalse => exact h.elim
      rename_i hini
      obtain ⟨ii, hii⟩ := Option.isSome_iff_exists.mp hini
      obtain ⟨hc, _, _, _, hnd, hln⟩ := Dg.fc.cls c ii.1 ii.2.1 ii.2.2 hii
      split at h
      · rename_i j hj
        split at h
        · rename_i fs' hf
          obtain ⟨ad, had, hO, hG⟩ := M.get hi
          have hv : VR B g1.G g1.ρ (.cell i) x := fx
          simp only [VR] at hv
          obtain ⟨ad', had', rfl⟩ := hv
          rw [had] at had'
          cases had'
          obtain ⟨dx, vs, q1, q2, q3⟩ := hO
          obtain ⟨hj1, hj2⟩ := Dg.fc.fld c k j hj
          obtain ⟨vs', p1, p2, p3⟩ := setF_ok hnd hj1 q2 q3 hw hf
          refine ⟨ad, _, dx, _, rfl, q1, by rw [Dg.K]; exact hc, by rw [Dg.K]; exact hj2 ⟨ii, hii⟩, by rw [List.length_zip]; omega, ?_⟩
          rw [p1]
          have e2 : Ev g1 H1 g1 _ := Ev.cellWr M hi had (Wr.upd (u := .ins (B.cA c) dx ((B.T.fln c).zip vs')))
          refine h g1 σ _ (ev.trans e2) (M.cellWr hi had Wr.upd ⟨dx, vs', upd_same, p2, p3⟩) (R.ev e2)
        · exact h.elim
      · exact h.elim
    · exact h.elim
  · exact h.elim
/-- what is stored elsewhere than in a name is stored as ever -/
theorem swA_ok {o v : Expr} {f : Str} {q : Pos} {l : Nat} {env : Env} : swapsWith v (some (.Attribute o f q)) l env = pure false := by
  unfold swapsWith
  cases v <;> rfl
theorem swI_ok {o i v : Expr} {q : Pos} {l : Nat} {env : Env} : swapsWithSole [.Subscript o i q] v l env = pure false := by
  show swapsWith v (some (.Subscript o i q)) l env = pure false
  unfold swapsWith
  cases v <;> rfl
theorem swT_ok {ts : List Expr} {v : Expr} {k : Nat} {q : Pos} {l : Nat} {env : Env} : swapsWith v (some (.Tuple ts k q)) l env = pure false := by
  unfold swapsWith
  cases v <;> rfl
theorem s_setF {k : Nat} {apos : Pos} (D : Gd B sc X Wx n) (ha : PEm B X Wx n ea a) (hb : PEm B X Wx n eb b) : PSm B X Wx n (.Assign [.Attribute ea (B.T.anm k) apos] eb pos) (.setF a k b) :=
  PS.mono (ps_fld ha hb swA_ok) fun Dd σ H h => by
    obtain ⟨g0, H0, gb, g, env, m, ev, M, R, h⟩ := h
    simp only [evS] at h
    refine toS_F ev M R h fun ry m1 g1 y H1 e1 e1' M1 R1 fy h1 => ?_
    split at h1
    · rename_i w hw
      refine toS_F e1 M1 R1 h1 fun rx m2 g2 x H2 e2 e2' M2 R2 fx h2 => ?_
      exact setFld_ok D e2 M2 R2 fx (e2'.vr (fy.esc hw)) h2
    · exact h1.elim

/-! ### op= -/
def augOp : Bop → Bool | .add => true | .sub => true | _ => false
theorem aug_ok {op : Bop} {i j : Int} {v : W} {y : V} {H : Hp} {Q : VK} (ho : augOp op = true) (hb : binV op (.int i) (.int j) = some (.val v)) (q : ∃ z, v = .int z ∧ Q (.int z) H) (hy : y = .int j) :
    ∃ r : R2, OpR X (inplaceOp op.py) r ∧ r (.int i) y H Q := by
  subst hy
  obtain ⟨z, rfl, q⟩ := q
  cases op <;> first | (cases ho; done) | skip
  · simp only [binV] at hb
    cases hb
    exact ⟨_, iop_add, i, j, rfl, rfl, q⟩
  · simp only [binV] at hb
    cases hb
    exact ⟨_, iop_sub, i, j, rfl, rfl, q⟩
def ipAny (X : Cx) (op : Bop) : TIp := fun x y H Q => ∃ r : R2, OpR X (inplaceOp op.py) r ∧ r x y H Q
theorem ip_any {op : Bop} : PIp X op.py (ipAny X op) := fun pins s σ H x y v u Q I rx ry h => by
  obtain ⟨r, hr, q⟩ := h
  exact hr pins s σ H x y v u Q I rx ry q
theorem binV_int {op : Bop} {i j : Int} {v : W} (ho : augOp op = true) (hb : binV op (.int i) (.int j) = some (.val v)) : ∃ z, v = .int z := by
  cases op <;> first | (cases ho; done) | (simp only [binV] at hb; cases hb; exact ⟨_, rfl⟩)
theorem s_aug {i : Nat} {op : Bop} (D : Gd B sc X Wx n) (ho : augOp op = true) (ht : nameB sc i ea = true) (hb : PEm B X Wx n eb b) : PSm B X Wx n (.AugAssign ea op.py eb pos) (.aug i op b) := by
  obtain ⟨x, p, rfl, h1, h2, h3⟩ := name_parts D ht
  refine PS.mono (ps_aug D.nd h1 h2 hb ip_any h3) fun Dd σ H h => ?_
  obtain ⟨g0, H0, gb, g, env, m, ev, M, R, h⟩ := h
  simp only [evS] at h
  split at h
  · rename_i w hw
    obtain ⟨xv, q1, q2⟩ := R.val i w hw
    refine ⟨xv, q1, ?_⟩
    refine toS_F ev M R h fun ry m1 g1 y H1 e1 e1' M1 R1 fy h1 => ?_
    split at h1
    · rename_i j
      split at h1
      · rename_i ii v hv
        cases (show xv = V.int ii from q2)
        obtain ⟨z, rfl⟩ := binV_int ho hv
        refine aug_ok ho hv ⟨z, rfl, ?_⟩ fy
        exact h1 g1 _ H1 e1 M1 (R1.setVal (List.getElem?_eq_some_iff.mp hw).1 rfl)
      · exact h1.elim
    · exact h1.elim
  · exact h.elim
theorem s_augF {k : Nat} {op : Bop} {apos p2 : Pos} {z : Int} {kk : Nat} (D : Gd B sc X Wx n) (ho : augOp op = true) (ha : PEm B X Wx n ea a) : PSm B X Wx n (.AugAssign (.Attribute ea (B.T.anm k) apos) op.py (.Constant (.int z) kk p2) pos) (.augF a k op (.int z)) := by
  refine PS.mono (ps_fldaug (rd := fun x y H Q => ∃ r : R2, OpR X (inplaceOp op.py) r ∧ r x y H Q) ha pe_int (fun pins s σ H x y u v Q I rx ry h => by obtain ⟨r, hr, q⟩ := h; exact hr pins s σ H x y u v Q I rx ry q)) fun Dd σ H h => ?_
  obtain ⟨g0, H0, gb, g, env, m, ev, M, R, h⟩ := h
  simp only [evS] at h
  refine toS_F ev M R h fun rx m1 g1 x H1 e1 e1' M1 R1 fx h1 => ?_
  split at h1
  · rename_i i hi
    split at h1
    · rename_i v hv
      obtain ⟨w, rfl⟩ := binV_int ho hv
      obtain ⟨a2, C2, dx2, fs2, rfl, q1, q2, q3, q4, q5⟩ := setFld_ok D e1 M1 R1 fx (w := .int w) (y := .int w) rfl h1
      unfold fldR at hi
      split at hi
      · rename_i c fs hrd
        obtain ⟨q, dx, vs, he, hq, hle, hvs⟩ := (fx.rd M1 R1 hrd : RD B g1 H1 (.ins c fs) (.ref a2))
        cases he
        split at hi
        case isFalse => cases hi
        rename_i hini
        obtain ⟨ii, hii⟩ := Option.isSome_iff_exists.mp hini
        obtain ⟨hc, _, _, _, hnd, hln⟩ := D.fc.cls c ii.1 ii.2.1 ii.2.2 hii
        split at hi
        · rename_i j hj
          obtain ⟨hj1, hj2⟩ := D.fc.fld c k j hj
          obtain ⟨u, hu, ru⟩ := hvs.get hi
          cases (show u = V.int i from ru)
          rw [hq] at q1
          injection q1 with q1
          injection q1 with z1 z2 z3
          subst z1 z2 z3
          refine ⟨a2, _, _, _, .int i, rfl, hq, q2, q3, look_zip_at hnd hj1 hu, ?_⟩
          refine aug_ok ho hv ⟨w, rfl, ?_⟩ rfl
          exact ⟨_, _, hq, q4, q5⟩
        · cases hi
      · cases hi
    · exact h1.elim
  · exact h1.elim

/-! ### o[i] = .. -/
theorem sub_asg {v : Value} {env : Env} (h : noSl eb = true) : assign (.Subscript ea eb pos) env v = (do
      let ov ← holding [v] (eval ea env)
      let iv ← holding [v, ov] (eval eb env)
      standAt pos
      holding [v, ov, iv] (setItem ov iv v)
      release [v, ov, iv] []) := by
  cases eb <;> first | rfl | (simp [noSl] at h)
theorem setItm_ok {g0 gb g1 : Gh} {H0 H1 : Hp} {env : En} {σ : L2.St} {m1 : Mem} {rx : RV} {x y z : V} {k w : W} {D : Ends} (Dg : Gd B sc X Wx n) (ev : Ev2 g0 H0 gb g1 H1) (M : MR B g1 m1 H1) (R : ER B g1 env σ H1 H0) (fx : FR B g1 env σ rx x) (hk : VR B g1.G g1.ρ k y) (hw : VR B g1.G g1.ρ w z)
    (h : SOk B Wx g0 H0 gb (setItm env rx k w m1) D) : pAny X x y z H1 fun H2 => D.nx σ H2 := by
  unfold setItm at h
  split at h
  · rename_i i
    split at h
    · rename_i o hi
      split at h
      · rename_i o' ho
        obtain ⟨hs, ob, _⟩ := fx
        obtain ⟨ad, k1, k2, k3, k4, k5⟩ := R.own i _ hi
        rw [hs] at k1
        cases k1
        exact setV_ok Dg.un1 k4 hk hw ho fun H' wr hO => h g1 σ H' ⟨ev.e.ownWr k5 wr, ev.k⟩ (M.ownWr k2 k3 wr) (R.ownWr hi hs wr hO (setV_kind ho))
      · exact h.elim
    · exact h.elim
  · rename_i i
    split at h
    · rename_i o hi
      split at h
      · rename_i o' ho
        obtain ⟨ad, had, hO, hG⟩ := M.get hi
        have hv : VR B g1.G g1.ρ (.cell i) x := fx
        simp only [VR] at hv
        obtain ⟨ad', had', rfl⟩ := hv
        rw [had] at had'
        cases had'
        exact setV_ok Dg.un1 hO hk hw ho fun H' wr hO' => h g1 σ H' (ev.trans (Ev.cellWr M hi had wr)) (M.cellWr hi had wr hO') (R.ev (Ev.cellWr M hi had wr))
      · exact h.elim
    · exact h.elim
  · exact h.elim
theorem swS_sub {o i v : Expr} {p : Pos} {env : Env} : swappedStores [.Subscript o i p] v env = pure none := by
  unfold swappedStores
  cases v <;> rfl
theorem s_setIx {p2 : Pos} (D : Gd B sc X Wx n) (ha : PEm B X Wx n ea a) (hb : PEm B X Wx n eb b) (hc : PEm B X Wx n ec c) (hs : noSl eb = true) : PSm B X Wx n (.Assign [.Subscript ea eb p2] ec pos) (.setIx a b c) :=
  PS.mono (ps_asg hc (pg_sub ha hb pset_any (fun _ => sub_asg hs)) swI_ok swS_sub rfl) fun Dd σ H h => by
    obtain ⟨g0, H0, gb, g, env, m, ev, M, R, h⟩ := h
    simp only [evS] at h
    refine toS_F ev M R h fun rz m1 g1 z H1 e1 e1' M1 R1 fz h1 => ?_
    split at h1
    · rename_i w hw
      refine toS_F e1 M1 R1 h1 fun rx m2 g2 x H2 e2 e2' M2 R2 fx h2 => ?_
      refine toS_F e2 M2 R2 h2 fun ry m3 g3 y H3 e3 e3' M3 R3 fy h3 => ?_
      split at h3
      · rename_i k hk
        exact setItm_ok D e3 M3 R3 (fx.ev e3') (fy.esc hk) (e3'.vr (e2'.vr (fz.esc hw))) h3
      · exact h3.elim
    · exact h1.elim

/-! ### x.append(..) of a thing of one's own -/
theorem s_mut {i : Nat} {k : Bm} (D : Gd B sc X Wx n) (ha : PEm B X Wx n ea (.var i)) (hr : PAm B X Wx n xs es) (hb : baseB ea = true) (hs : xs.all ns = true) (hn : xs.length < 30) (hl : (apos.endLine == p.line) = true) (hz : Es.nilB xs es) :
    PSm B X Wx n (.Expr (.Call (.Attribute ea k.name apos) xs [] p) pos) (.mut i k es) :=
  PS.mono (ps_expr (pe_bmM ha hr hb hs hn hl (fun e σ H Q h => by rw [hz e] at h; exact tWs_nil h)) (swaps_ok rfl)) fun Dd σ H h => by
    obtain ⟨g0, H0, gb, g, env, m, ev, M, R, h⟩ := h
    simp only [evS] at h
    split at h
    · rename_i o hi
      split at h
      case isFalse => exact h.elim
      rename_i hm
      unfold mutOk at hm
      split at hm
      case h_2 => cases hm
      rename_i T hT
      refine ⟨g, env, m, H0, M, R, ?_⟩
      simp only [evE, hi]
      intro g1 x H1 e1' M1 r
      have e1 := ev.trans e1'
      have R1 := R.ev e1'
      obtain ⟨hsx, _⟩ := r
      obtain ⟨ad, k1, k2, k3, k4, k5⟩ := R1.own i _ hi
      rw [hsx] at k1
      cases k1
      have hTn : T ≠ .tuple := by
        intro z
        subst z
        cases o <;> cases hT
      refine ⟨T, hm, OR.tyA D.K M1 k4 hT hTn, ?_⟩
      refine ⟨g1, env, m, H0, M1, R1, toS_ok e1 R1 h fun ws m2 g2 vs H2 e2 e2' M2 R2 rv h2 => ?_⟩
      split at h2
      · rename_i pr hpr
        obtain ⟨ad', k1', k2', k3', k4', k5'⟩ := R2.own i _ hi
        rw [hsx] at k1'
        cases k1'
        exact mutV_ok k4' rv (show mutV k o ws = some (pr.1, pr.2) from hpr) hT fun z H' wr hO' hz' => h2 g2 σ H' ⟨e2.e.ownWr k5' wr, e2.k⟩ (M2.ownWr k2' k3' wr) (R2.ownWr hi hsx wr hO' (mutV_kind (show mutV k o ws = some (pr.1, pr.2) from hpr)))
      · exact h2.elim
    · exact h.elim

/-! ### loops -/
theorem s_while (po : PassesOwn (model X.prog X.w) X.A X.env X.xe) (hc : PTm B X Wx n ec c) (hb : PSsm B X Wx n sts ss) : PSm B X Wx n (.While ec sts [] pos) (.while c ss) := PS.mono (ps_while po hc hb) fun D σ H h => by
  obtain ⟨g0, H0, gb, g, env, m, ev, M, R, h⟩ := h
  simp only [evS] at h
  refine ⟨fun k σ H => ∃ g env m, Ev2 g0 H0 gb g H ∧ MR B g m H ∧ ER B g env σ H H0 ∧ SOk B Wx g0 H0 gb (whileL (fun env m => (evE B.T (cfN B.T n) env c m).bind fun r m1 => match r with | .val (.bl k) => .ok k m1 | _ => .stuck) (fun env m => evSs B.T (cfN B.T n) ss env m) k env m) D, ⟨_, g, env, m, ev, M, R, h⟩, ?_⟩
  rintro k σ1 H1 ⟨g1, env1, m1, e1, M1, R1, h1⟩
  cases k with
  | zero => exact h1.elim
  | succ k =>
    unfold whileL at h1
    refine ⟨g1, env1, m1, H0, M1, R1, toS_ok e1 R1 h1 fun b m2 g2 b' H2 e2 e2' M2 R2 rb h2 => ?_⟩
    cases rb
    cases b with
    | false =>
      rw [if_neg Bool.false_ne_true]
      exact h2 g2 σ1 H2 e2 M2 R2
    | true =>
      rw [if_pos rfl]
      refine ⟨fun σ' H' => ∃ g env m, Ev2 g0 H0 gb g H' ∧ MR B g m H' ∧ ER B g env σ' H' H0 ∧ SOk B Wx g0 H0 gb (whileL (fun env m => (evE B.T (cfN B.T n) env c m).bind fun r m1 => match r with | .val (.bl k) => .ok k m1 | _ => .stuck) (fun env m => evSs B.T (cfN B.T n) ss env m) k env m) D, fun σ' H' q => ⟨k, Nat.lt_succ_self k, q⟩, ?_⟩
      refine ⟨g0, H0, gb, g2, env1, m2, e2, M2, R2, ?_⟩
      cases q : evSs B.T (cfN B.T n) ss env1 m2 with
      | next env' m' =>
        simp only [q] at h2
        exact fun g' σ' H' e M' R' => ⟨g', env', m', e, M', R', h2⟩
      | cont env' m' =>
        simp only [q] at h2
        exact fun g' σ' H' e M' R' => ⟨g', env', m', e, M', R', h2⟩
      | brk env' m' => simp only [q] at h2; exact h2
      | ret rv m' => simp only [q] at h2; exact h2
      | exc x env' m' => simp only [q] at h2; exact h2
      | stuck => simp only [q] at h2; exact h2
theorem for_src {f : W → En → Mem → SR} {src : Src} {xs : List W} {env : En} {m : Mem} {g0 gb : Gh} {H0 : Hp} {D : Ends} (h : SOk B Wx g0 H0 gb (forL f src xs env m) D) : okSrc src m = true := by
  cases xs with
  | nil =>
    unfold forL at h
    split at h
    · assumption
    · exact h.elim
  | cons x xs =>
    unfold forL at h
    split at h
    · assumption
    · exact h.elim
theorem s_for {tgi : Tg} {it : Mi.It} {iter : Expr} (D : Gd B sc X Wx n) (po : PassesOwn (model X.prog X.w) X.A X.env X.xe) (hi : PI X tg iter (tI B (cfN B.T n) Wx it)) (htg : tgB sc tgi tg = true) (hb : PSsm B X Wx n sts ss) (hset : noSet iter = true) :
    PSm B X Wx n (.For tg iter sts [] pos) (.for tgi it ss) := PS.mono (ps_for po D.calm hi (tg_ok D htg) hb (folded_ok hset)) fun Dd σ H h => by
  obtain ⟨g0, H0, gb, g, env, m, ev, M, R, h⟩ := h
  simp only [evS] at h
  refine ⟨g, env, m, H0, M, R, toS_ok ev R h fun xp m1 g1 J H1 e1 e1' M1 R1 wk h1 => ?_⟩
  refine ⟨fun i mm σ2 H2 => mm = xp.1.length - i ∧ i ≤ xp.1.length ∧ ∃ g2 env2 m2, Ev2 g0 H0 g1 g2 H2 ∧ MR B g2 m2 H2 ∧ ER B g2 env2 σ2 H2 H0 ∧ SOk B Wx g0 H0 gb (forL (fun x env m => match bindT tgi x env with | some env' => evSs B.T (cfN B.T n) ss env' m | none => .stuck) xp.2 (xp.1.drop i) env2 m2) Dd,
    ⟨xp.1.length, by simp, Nat.zero_le _, g1, env, m1, ⟨e1.e, Gk.refl⟩, M1, R1, h1⟩, ?_⟩
  rintro i mm σ2 H2 ⟨rfl, hile, g2, env2, m2, e2, M2, R2, h2⟩
  have hsrc := for_src h2
  by_cases hlt : i < xp.1.length
  · refine .inr ⟨wk.goes i g2 m2 H2 e2.k M2 hsrc hlt, fun σ3 H3 => ∃ g2 env2 m2, Ev2 g0 H0 g1 g2 H3 ∧ MR B g2 m2 H3 ∧ ER B g2 env2 σ3 H3 H0 ∧ SOk B Wx g0 H0 gb (forL (fun x env m => match bindT tgi x env with | some env' => evSs B.T (cfN B.T n) ss env' m | none => .stuck) xp.2 (xp.1.drop (i + 1)) env2 m2) Dd,
      fun σ' H' q => ⟨xp.1.length - (i + 1), by omega, rfl, hlt, q⟩, fun x H3 y => ?_⟩
    obtain ⟨g3, w, e4, M3, hw, hx⟩ := wk.yields i g2 m2 H2 x H3 e2.k M2 hsrc hlt y
    have hdrop : xp.1.drop i = w :: xp.1.drop (i + 1) := by
      rw [List.drop_eq_getElem_cons hlt]
      congr 1
      rw [List.getElem?_eq_getElem hlt] at hw
      exact Option.some.inj hw
    rw [hdrop] at h2
    unfold forL at h2
    rw [if_pos hsrc] at h2
    have R3 := R2.ev e4
    cases hbt : bindT tgi w env2 with
    | none => simp only [hbt] at h2; exact h2.elim
    | some env' =>
      simp only [hbt] at h2
      refine ⟨g3, env2, m2, H0, w, env', M3, R3, hx, hbt, fun σ4 R4 _ => ?_⟩
      refine ⟨g0, H0, g1, g3, env', m2, e2.trans e4, M3, R4, ?_⟩
      have k1 : Gk gb g1 := e1.k
      cases q : evSs B.T (cfN B.T n) ss env' m2 with
      | next env'' m' =>
        simp only [q] at h2
        exact fun g' σ' H' e M' R' => ⟨g', env'', m', e, M', R', h2⟩
      | cont env'' m' =>
        simp only [q] at h2
        exact fun g' σ' H' e M' R' => ⟨g', env'', m', e, M', R', h2⟩
      | brk env'' m' =>
        simp only [q] at h2
        exact fun g' σ' H' e M' R' => h2 g' σ' H' (e.grd k1) M' R'
      | ret rv m' =>
        simp only [q] at h2
        exact fun g' v H' e M' R' => h2 g' v H' (e.grd k1) M' R'
      | exc x env'' m' =>
        simp only [q] at h2
        exact fun g' σ' H' cls d e M' R' => h2 g' σ' H' cls d (e.grd k1) M' R'
      | stuck => simp only [q] at h2; exact h2.elim
  · have hi' : i = xp.1.length := by omega
    subst hi'
    refine .inl ⟨wk.stops g2 m2 H2 e2.k M2 hsrc, ?_⟩
    rw [List.drop_length] at h2
    unfold forL at h2
    rw [if_pos hsrc] at h2
    exact h2 g2 σ2 H2 (e2.grd e1.k) M2 R2
end
end Mi

set_option Elab.async false
set_option linter.all false
set_option maxRecDepth 100000
set_option maxHeartbeats 1000000
/-! Mi31: a, b = x, y. -/
namespace Mi
open PySem PySem.Spec L2
open PyProof.Rows (Fr News envOfC)

section
variable {B : Tb} {X : Cx} {Wx : WX} {n : Nat} {sc : Sc} {pos spos p apos : Pos} {e ea eb ec tg : Expr} {a b c : E} {es : Es} {xs : List Expr} {g g' g2 gb g0 : Gh} {H H' H0 Hs Hc : Hp} {env env' e0 : En} {σ s0 : L2.St} {m : Mem}
/-- results in a row, not frozen -/
def NRs (B : Tb) (g : Gh) (env : En) (σ : L2.St) (H Hs : Hp) : List RV → List V → Prop
  | [], vs => vs = []
  | r :: rs, vs => ∃ u us, vs = u :: us ∧ RR B g env σ H Hs r u ∧ NRs B g env σ H Hs rs us ∧ ∀ ob a, r = .new ob → u = .ref a → ∀ (j : Nat) ob', rs[j]? = some (.new ob') → us[j]? ≠ some (.ref a)
theorem NRs.ev (e : Ev g H g' H') : ∀ {rs : List RV} {vs : List V}, NRs B g env σ H Hs rs vs → NRs B g' env σ H' Hs rs vs
  | [], _, h => h
  | r :: rs, vs, h => by
    obtain ⟨u, us, rfl, h1, h2, h3⟩ := h
    exact ⟨u, us, rfl, h1.ev e, NRs.ev e h2, h3⟩
theorem NRs.back (e : Ev g H g' Hc) : ∀ {rs : List RV} {vs : List V}, NRs B g2 env σ H' Hc rs vs → NRs B g2 env σ H' H rs vs
  | [], _, h => h
  | r :: rs, vs, h => by
    obtain ⟨u, us, rfl, h1, h2, h3⟩ := h
    exact ⟨u, us, rfl, h1.back e, NRs.back e h2, h3⟩
theorem NRs.fresh : ∀ {rs : List RV} {vs : List V} {j : Nat} {ob : Ob}, NRs B g env σ H Hs rs vs → rs[j]? = some (.new ob) → ∃ a, vs[j]? = some (.ref a) ∧ Hs a = none
  | [], _, _, _, _, h2 => by simp at h2
  | r :: rs, vs, 0, ob, h, h2 => by
    obtain ⟨u, us, rfl, h1, _, _⟩ := h
    simp at h2
    subst h2
    obtain ⟨a, rfl, _, _, _, k⟩ := h1
    exact ⟨a, rfl, k⟩
  | r :: rs, vs, j + 1, ob, h, h2 => by
    obtain ⟨u, us, rfl, _, h1, _⟩ := h
    exact NRs.fresh (j := j) h1 (by simpa using h2)
abbrev relNs (B : Tb) (env : En) (σ : L2.St) (Hs : Hp) : Gh → Hp → List RV → List V → Prop := fun g' H' rs vs => NRs B g' env σ H' Hs rs vs
def tNs (B : Tb) (cf : CF) (Wx : WX) (ir : Es) : TA := fun σ H Q => ∃ g env m H0, MR B g m H ∧ ER B g env σ H H0 ∧ OkG B g H (relNs B env σ H) (evRs B.T cf env ir m) Q (fun c d H' => Wx c d σ H')
theorem n_nil : PA X [] (tNs B (cfN B.T n) Wx .nil) := PA.mono pa_nil fun σ H Q h => by
  obtain ⟨g, env, m, H0, M, R, h⟩ := h
  simp only [evRs] at h
  exact h g [] H Ev.refl M rfl
theorem n_cons (ha : PEm B X Wx n ea a) (hr : PA X xs (tNs B (cfN B.T n) Wx es)) (hs : ns ea = true) : PA X (ea :: xs) (tNs B (cfN B.T n) Wx (.cons a es)) := PA.mono (pa_cons ha hr (star_cons hs)) fun σ H Q h => by
  obtain ⟨g, env, m, H0, M, R, h⟩ := h
  simp only [evRs] at h
  refine tE_bind M R Ev.refl h fun rx m1 g1 x H1 he e1 e1' M1 R1 fx h1 => ?_
  refine ⟨g1, env, m1, H0, M1, R1, h1.bind e1 fun rs m2 g2 vs H2 he2 e2 e2' M2 rv h2 => ?_⟩
  refine h2 g2 _ H2 e2 M2 ⟨x, vs, rfl, fx.ev e2', rv.back e1, fun ob a hx hu j ob' hj hv => ?_⟩
  subst hx
  obtain ⟨a', z1, z2, z3, z4, z5⟩ := fx
  rw [hu] at z1
  cases z1
  obtain ⟨a', k1, k2⟩ := rv.fresh hj
  rw [hv] at k1
  cases k1
  obtain ⟨o, ho⟩ := z4.there
  rw [k2] at ho
  cases ho
def setsV : L2.St → List Nat → List V → L2.St
  | σ, i :: is, v :: vs => setsV (σ.set i (some v)) is vs
  | σ, _, _ => σ
theorem gNms_of {D : L2.St → Hp → Prop} : ∀ {is : List Nat} {vs : List V} {σ : L2.St}, vs.length = is.length → D (setsV σ is vs) H → gNms is vs σ H D
  | [], [], σ, _, h => ⟨rfl, h⟩
  | [], v :: vs, _, hl, _ => by simp at hl
  | i :: is, [], _, hl, _ => by simp at hl
  | i :: is, v :: vs, σ, hl, h => ⟨v, vs, rfl, gNms_of (is := is) (by simpa using hl) h⟩
theorem ER.fz {ad : Addr} (R : ER B g env σ H H0) (gs : Gs g.G g2.G) (r : g2.ρ = g.ρ) (q2 : ∀ b o, g2.G b = some o → g.G b = some o ∨ b = ad) (ne : ∀ (j : Nat) o b, env[j]? = some (.own o) → σ[j]? = some (some (.ref b)) → b ≠ ad) : ER B g2 env σ H H0 where
  len := R.len
  val := fun j w e => by
    obtain ⟨v, h1, h2⟩ := R.val j w e
    exact ⟨v, h1, VR.up gs ⟨[], by rw [r]; simp⟩ _ _ h2⟩
  own := fun j x e => by
    obtain ⟨b, h1, h2, h3, h4, h5⟩ := R.own j x e
    refine ⟨b, h1, ?_, by rw [r]; exact h3, OR.up gs ⟨[], by rw [r]; simp⟩ (fun _ z => z) h4, h5⟩
    cases z : g2.G b with
    | none => rfl
    | some u =>
      rcases q2 b u z with z | z
      · rw [h2] at z; cases z
      · exact absurd z (ne j x b e h1)
  ond := R.ond
  slf := R.slf
theorem NRs.fz {ad : Addr} (gs : Gs g.G g2.G) (r : g2.ρ = g.ρ) (q2 : ∀ b o, g2.G b = some o → g.G b = some o ∨ b = ad) : ∀ {rs : List RV} {vs : List V}, NRs B g env σ H Hs rs vs → (∀ (j : Nat) ob, rs[j]? = some (.new ob) → vs[j]? ≠ some (.ref ad)) → NRs B g2 env σ H Hs rs vs
  | [], _, h, _ => h
  | r' :: rs, vs, h, hn => by
    obtain ⟨u, us, rfl, h1, h2, h3⟩ := h
    refine ⟨u, us, rfl, ?_, NRs.fz gs r q2 h2 fun j ob hj => by simpa using hn (j + 1) ob (by simpa using hj), h3⟩
    cases r' with
    | val w => exact VR.up gs ⟨[], by rw [r]; simp⟩ _ _ h1
    | new ob =>
      obtain ⟨a, rfl, k1, k2, k3, k4⟩ := h1
      refine ⟨a, rfl, ?_, by rw [r]; exact k2, OR.up gs ⟨[], by rw [r]; simp⟩ (fun _ z => z) k3, k4⟩
      cases z : g2.G a with
      | none => rfl
      | some u =>
        rcases q2 a u z with z | z
        · rw [k1] at z; cases z
        · subst z
          exact absurd rfl (hn 0 ob rfl)
    | own i => exact h1
theorem setOwns_ok : ∀ {is : List (Nat × Bool)} {rs : List RV} {vs : List V} {env env' : En} {σ : L2.St} {g : Gh}, Ev2 g0 H0 gb g H → MR B g m H → ER B g env σ H H0 → NRs B g e0 s0 H H0 rs vs →
    (∀ (j : Nat) o b (k : Nat) ob, env[j]? = some (.own o) → σ[j]? = some (some (.ref b)) → rs[k]? = some (.new ob) → vs[k]? ≠ some (.ref b)) → setOwns env is rs = some env' →
    ∃ g', Ev2 g0 H0 gb g' H ∧ MR B g' m H ∧ ER B g' env' (setsV σ (is.map (·.1)) vs) H H0 ∧ vs.length = is.length
  | [], [], vs, env, env', σ, g, ev, M, R, h, sep, hs => by
    cases hs
    cases (show vs = [] from h)
    exact ⟨g, ev, M, R, rfl⟩
  | [], _ :: _, _, _, _, _, _, _, _, _, _, _, hs => by cases hs
  | (i, k) :: is, [], _, _, _, _, _, _, _, _, _, _, hs => by cases hs
  | (i, k) :: is, r :: rs, vs, env, env', σ, g, ev, M, R, h, sep, hs => by
    simp only [setOwns] at hs
    split at hs
    case h_2 => cases hs
    rename_i e1 he1
    obtain ⟨u, us, rfl, hr, hrs, hd⟩ := h
    unfold setOwn at he1
    split at he1
    case isFalse => cases he1
    rename_i hi
    have hi' : i < σ.length := by rw [← R.len]; exact hi
    cases k with
    | true =>
      rw [if_pos rfl] at he1
      split at he1
      case h_1 => cases he1
      case h_3 => cases he1
      rename_i o hno
      cases he1
      obtain ⟨ad, rfl, k1, k2, k3, k4⟩ := hr
      have R1 := R.setOwn hi k1 k2 k3 k4 (fun j o' hj he hσ => sep j o' ad 0 o he hσ rfl rfl) (fun c fs z => hno c fs (by rw [z]))
      obtain ⟨g', w1, w2, w3, w4⟩ := setOwns_ok ev M R1 hrs (fun j o' b k ob e1 e2 e3 => by
        by_cases hj : i = j
        · subst hj
          rw [List.getElem?_set_self hi'] at e2
          cases e2
          exact hd o ad rfl rfl k ob e3
        · rw [List.getElem?_set_ne hj] at e1 e2
          exact sep j o' b (k + 1) ob e1 e2 e3) hs
      exact ⟨g', w1, w2, w3, by simp [w4]⟩
    | false =>
      rw [if_neg Bool.false_ne_true] at he1
      split at he1
      case h_2 => cases he1
      rename_i w hw
      cases he1
      have sep' : ∀ (j : Nat) o b (k : Nat) ob, (env.set i (Sl.val w))[j]? = some (.own o) → (σ.set i (some u))[j]? = some (some (.ref b)) → rs[k]? = some (.new ob) → us[k]? ≠ some (.ref b) := fun j o' b k ob e1 e2 e3 => by
        by_cases hj : i = j
        · subst hj
          rw [List.getElem?_set_self hi] at e1
          cases e1
        · rw [List.getElem?_set_ne hj] at e1 e2
          exact sep j o' b (k + 1) ob e1 e2 e3
      cases r with
      | val w' =>
        cases hw
        obtain ⟨g', w1, w2, w3, w4⟩ := setOwns_ok ev M (R.setVal hi hr) hrs sep' hs
        exact ⟨g', w1, w2, w3, by simp [w4]⟩
      | new ob =>
        cases hw
        obtain ⟨ad, rfl, k1, k2, k3, k4⟩ := hr
        obtain ⟨g3, r3, q1, q2, vr, M3⟩ := frz_ok M k1 k2 k3
        have gs : Gs g.G g3.G := Gs.of q1
        have rs3 : ∃ t, g3.ρ = g.ρ ++ t := ⟨[], by rw [r3]; simp⟩
        have ev3 : Ev2 g0 H0 gb g3 H := by
          refine ⟨⟨ev.e.gk.trans gs, by rw [r3]; exact ev.e.rk, fun b o z => ?_, by rw [r3]; exact ev.e.rn, fun b o z z' => ?_, ev.e.dom⟩, ev.k.trans ⟨gs, rs3⟩⟩
          · rcases q2 b o z with z | z
            · exact ev.e.gn b o z
            · exact .inr (z ▸ k4)
          · rcases ev.e.fr b o z z' with z | ⟨z1, u, z2⟩
            · exact .inl z
            · exact .inr ⟨z1, u, q1 b u z2⟩
        have R3 := R.fz gs r3 q2 fun j o b e1 e2 z => sep j o b 0 ob e1 e2 rfl (by rw [z]; rfl)
        have N3 := NRs.fz gs r3 q2 hrs fun j ob' hj => hd ob ad rfl rfl j ob' hj
        obtain ⟨g', w1, w2, w3, w4⟩ := setOwns_ok ev3 M3 (R3.setVal hi vr) N3 sep' hs
        exact ⟨g', w1, w2, w3, by simp [w4]⟩
      | own j => cases hw

/-! ### which stores are swapped -/
def isStar : Expr → Bool | .Starred .. => true | _ => false
def swNm (sc : Scope) (l : Nat) : Expr → Option Str
  | .Name id pos => if sc.names.lookup id == some .local && pos.line == l then some id else none
  | _ => none
def swM (sc : Scope) (ts vs : List Expr) : Option (Option (List Str)) :=
  if (!(ts.length == 2 || ts.length == 3) || vs.length != ts.length) = true then some none
  else if vs.any isStar = true then some none
  else
    if ((ts.filterMap (swNm sc ((ts.head?.map (·.pos.line)).getD 0))).length != ts.length || (ts.filterMap (swNm sc ((ts.head?.map (·.pos.line)).getD 0))).eraseDups.length != (ts.filterMap (swNm sc ((ts.head?.map (·.pos.line)).getD 0))).length) = true then some none
    else if vs.all (foldedForSure 8) = true then some none
    else if vs.all (constantsAlone 8) = true then none
    else some (some (ts.filterMap (swNm sc ((ts.head?.map (·.pos.line)).getD 0))))
theorem sw_ok {ts vs : List Expr} {k k2 : Nat} {p p2 : Pos} {env : Env} {r : Option (List Str)} (hk : env.scope.kind = .function) (h : swM env.scope ts vs = some r) : swappedStores [.Tuple ts k p] (.Tuple vs k2 p2) env = pure r := by
  have hb : env.blockKind = .function := by unfold Env.blockKind; rw [hk]; rfl
  have hb2 : (env.blockKind != .function) = false := by rw [hb]; rfl
  have E : swappedStores [.Tuple ts k p] (.Tuple vs k2 p2) env = (if (!(ts.length == 2 || ts.length == 3) || vs.length != ts.length || env.blockKind != .function) = true then pure none
      else if vs.any isStar = true then pure none
      else if ((ts.filterMap (swNm env.scope ((ts.head?.map (·.pos.line)).getD 0))).length != ts.length || (ts.filterMap (swNm env.scope ((ts.head?.map (·.pos.line)).getD 0))).eraseDups.length != (ts.filterMap (swNm env.scope ((ts.head?.map (·.pos.line)).getD 0))).length) = true then pure none
      else if vs.all (foldedForSure 8) = true then pure none
      else if vs.all (constantsAlone 8) = true then (do unsupported "assign.tuple-of-constant-expressions:order-of-the-stores"; pure (some (ts.filterMap (swNm env.scope ((ts.head?.map (·.pos.line)).getD 0)))))
      else pure (some (ts.filterMap (swNm env.scope ((ts.head?.map (·.pos.line)).getD 0))))) := by
    unfold swappedStores
    rfl
  rw [E, hb2, Bool.or_false]
  unfold swM at h
  by_cases h1 : (!(ts.length == 2 || ts.length == 3) || vs.length != ts.length) = true
  · rw [if_pos h1] at h ⊢
    cases h
    rfl
  · rw [if_neg h1] at h ⊢
    by_cases h2 : vs.any isStar = true
    · rw [if_pos h2] at h ⊢
      cases h
      rfl
    · rw [if_neg h2] at h ⊢
      split at h
      · rename_i h3
        cases h
        rw [if_pos h3]
      · rename_i h3
        rw [if_neg h3]
        split at h
        · rename_i h4
          cases h
          rw [if_pos h4]
        · rename_i h4
          rw [if_neg h4]
          split at h
          · cases h
          · rename_i h5
            cases h
            rw [if_neg h5]
/-- a plain local name -/
def nmL (sc : Sc) (i : Nat) (x : Str) : Bool := decide (sc.N[i]? = some x) && (match sc.scope.names.lookup x with | some .local => true | _ => false)
theorem nmL_ok {i : Nat} {x : Str} (D : Gd B sc X Wx n) (h : nmL sc i x = true) : X.N[i]? = some x ∧ X.env.scope.names.lookup x = some .local := by
  unfold nmL at h
  simp only [Bool.and_eq_true, decide_eq_true_eq] at h
  rw [D.N, D.sco]
  refine ⟨h.1, ?_⟩
  have h2 := h.2
  split at h2
  · assumption
  · cases h2
theorem setP_red {is : List (Nat × Bool)} {D : Ends} {σ : L2.St} {H : Hp} {Q : List V → Hp → Prop} (h : tS B (cfN B.T n) Wx (.setP is es) D σ H) (k : ∀ vs H1, vs.length = is.length → D.nx (setsV σ (is.map (·.1)) vs) H1 → (∀ q o, H1 q = none → D.nx (setsV σ (is.map (·.1)) vs) (upd H1 q o)) → Q vs H1) : tNs B (cfN B.T n) Wx es σ H Q := by
  obtain ⟨g0, H0, gb, g, env, m, ev, M, R, h⟩ := h
  simp only [evS] at h
  refine ⟨g, env, m, H0, M, R, toS_ok ev R h fun rs m1 g1 vs H1 e1 e1' M1 R1 rv h1 => ?_⟩
  split at h1
  · rename_i env' hs
    obtain ⟨g', w1, w2, w3, w4⟩ := setOwns_ok e1 M1 R1 (rv.back (g := g0) (H := H0) ev.e) (fun j o b k ob he hσ hr hv => by
      obtain ⟨b', z1, _, _, z4, _⟩ := R.own j o he
      rw [hσ] at z1
      cases z1
      obtain ⟨a, q1, q2⟩ := rv.fresh hr
      rw [hv] at q1
      cases q1
      obtain ⟨u, hu⟩ := z4.there
      rw [q2] at hu
      cases hu) hs
    exact k vs H1 w4 (h1 g' _ H1 w1 w2 w3) fun q o hq => h1 g' _ _ (w1.trans (Ev.new hq)) (MR.new w2 hq) (w3.ev (Ev.new hq))
  · exact h1.elim
def setPB (sc : Sc) (is : List (Nat × Bool)) (ts vs : List Expr) : Bool := match swM sc.scope ts vs with
  | some none => namesB sc (is.map (·.1)) ts && decide (is.length ≤ 1000)
  | some (some _) => (match ts, vs, is.map (·.1) with
    | [.Name x _, .Name y _], [_, _], [i, j] => nmL sc i x && nmL sc j y && decide (i ≠ j) && (match swM sc.scope ts vs with | some (some l) => l == [x, y] | _ => false)
    | [.Name x _, .Name y _, .Name z _], [_, _, _], [i, j, l] => nmL sc i x && nmL sc j y && nmL sc l z && decide (i ≠ j) && decide (i ≠ l) && decide (j ≠ l) && (match swM sc.scope ts vs with | some (some l) => l == [x, y, z] | _ => false)
    | _, _, _ => false)
  | none => false
theorem s_setP {is : List (Nat × Bool)} {ts vs : List Expr} {k k2 : Nat} {p p2 : Pos} (D : Gd B sc X Wx n) (hk : sc.scope.kind = .function) (hp : setPB sc is ts vs = true) (ha : PA X vs (tNs B (cfN B.T n) Wx es)) : PSm B X Wx n (.Assign [.Tuple ts k p] (.Tuple vs k2 p2) pos) (.setP is es) := by
  have hk' : X.env.scope.kind = .function := by rw [D.sco]; exact hk
  unfold setPB at hp
  split at hp
  · rename_i hsw
    simp only [Bool.and_eq_true, decide_eq_true_eq] at hp
    obtain ⟨h1, h2, h3⟩ := names_ok D hp.1
    refine PS.mono (ps_asg (pe_tup ha) (pg_tup D.calm h1 h2 h3) rfl (sw_ok hk' (by rw [D.sco]; exact hsw)) rfl) fun Dd σ H h => ?_
    exact setP_red h fun us H1 hl _ hq => ⟨by rw [hl, sizeLine_eq]; have := hp.2; omega, fun q hq' => ⟨q, us, rfl, .inl (.inl upd_same), by rw [hl, List.length_map], gNms_of (by rw [hl, List.length_map]) (hq q _ hq')⟩⟩
  · rename_i l0 hsw
    split at hp
    · rename_i x p1 y p2 a b i j hts
      simp only [Bool.and_eq_true, decide_eq_true_eq] at hp
      obtain ⟨⟨⟨hx, hy⟩, hij⟩, hl⟩ := hp
      obtain ⟨x1, x2⟩ := nmL_ok D hx
      obtain ⟨y1, y2⟩ := nmL_ok D hy
      have hl2 : swM sc.scope [.Name x p1, .Name y p2] [a, b] = some (some [x, y]) := by
        split at hl
        · rename_i l h0
          rw [h0, eq_of_beq hl]
        · cases hl
      refine PS.mono (ps_par D.calm D.nd x1 y1 hij x2 y2 ha (sw_ok hk' (by rw [D.sco]; exact hl2)) rfl) fun Dd σ H h => ?_
      refine setP_red h fun us H1 hl hq _ => ?_
      have h2 : us.length = 2 := by rw [hl, ← List.length_map (f := (·.1)), hts]; rfl
      match us, h2 with
      | [v, w], _ =>
        refine ⟨v, w, rfl, ?_⟩
        rw [hts] at hq
        exact hq
    · rename_i x p1 y p2 z p3 a b c i j l hts
      simp only [Bool.and_eq_true, decide_eq_true_eq] at hp
      obtain ⟨⟨⟨⟨⟨⟨hx, hy⟩, hz⟩, hij⟩, hil⟩, hjl⟩, hl⟩ := hp
      obtain ⟨x1, x2⟩ := nmL_ok D hx
      obtain ⟨y1, y2⟩ := nmL_ok D hy
      obtain ⟨z1, z2⟩ := nmL_ok D hz
      have hl2 : swM sc.scope [.Name x p1, .Name y p2, .Name z p3] [a, b, c] = some (some [x, y, z]) := by
        split at hl
        · rename_i l h0
          rw [h0, eq_of_beq hl]
        · cases hl
      refine PS.mono (ps_par3 D.calm D.nd x1 y1 z1 hij hil hjl x2 y2 z2 ha (sw_ok hk' (by rw [D.sco]; exact hl2)) rfl) fun Dd σ H h => ?_
      refine setP_red h fun us H1 hl hq _ => ?_
      have h2 : us.length = 3 := by rw [hl, ← List.length_map (f := (·.1)), hts]; rfl
      match us, h2 with
      | [v, w, t], _ =>
        refine ⟨v, w, t, rfl, ?_⟩
        rw [hts] at hq
        exact hq
    · cases hp
  · cases hp
end
end Mi

set_option Elab.async false
set_option linter.all false
set_option maxRecDepth 100000
set_option maxHeartbeats 4000000
/-! MiA: the program as data; what the top has left; the law's end. -/
namespace Mi
open PySem PySem.Spec L2
open PyProof.Rows (Fr News envOfC)

theorem zip_look {ps : List Str} {us : List Value} : ∀ x ∈ ps, us.length = ps.length → ((ps.zip us).lookup x).isSome = true := by
  induction ps generalizing us with
  | nil => intro x h; cases h
  | cons p ps ih =>
    intro x h hl
    cases us with
    | nil => simp at hl
    | cons u us =>
      show (List.lookup x ((p, u) :: ps.zip us)).isSome = true
      rw [List.lookup_cons]
      by_cases e : (x == p) = true
      · rw [e]; rfl
      · have e' : (x == p) = false := by simpa using e
        rw [e']
        have hx : x ∈ ps := by
          rcases List.mem_cons.mp h with z | z
          · subst z; simp at e
          · exact z
        exact ih x hx (by simpa using hl)
theorem zip_fm {ps : List Str} {us : List Value} (nd : ps.Nodup) (hl : us.length = ps.length) : (ps.filterMap fun n => ((ps.zip us).lookup n).map (n, ·)) = ps.zip us := by
  induction ps generalizing us with
  | nil => cases us <;> simp_all
  | cons p ps ih =>
    cases us with
    | nil => simp at hl
    | cons u us =>
      obtain ⟨h1, h2⟩ := List.nodup_cons.mp nd
      have hl' : us.length = ps.length := by simpa using hl
      rw [List.filterMap_cons]
      have e0 : ((p, u) :: ps.zip us).lookup p = some u := by simp [List.lookup_cons]
      simp only [List.zip_cons_cons, e0, Option.map_some]
      congr 1
      have key : ∀ l : List Str, (∀ x ∈ l, x ≠ p) → (l.filterMap fun n => (((p, u) :: ps.zip us).lookup n).map (n, ·)) = l.filterMap fun n => ((ps.zip us).lookup n).map (n, ·) := by
        intro l
        induction l with
        | nil => intro _; rfl
        | cons x l ihl =>
          intro hx
          have e : (x == p) = false := by simpa using hx x (List.mem_cons_self ..)
          rw [List.filterMap_cons, List.filterMap_cons, ihl fun y hy => hx y (List.mem_cons_of_mem _ hy)]
          rw [List.lookup_cons, e]
      rw [key ps fun x hx z => h1 (z ▸ hx), ih (us := us) h2 hl']
theorem bind_plain {name qual : Str} {params : Arguments} {body : List Stmt} {scope : Scope} {kV doc pm cdv ct : Value} {an : Option Addr} {ps : List Str} {us : List Value} (h1 : params.posonlyargs = []) (h2 : params.kwonlyargs = []) (h3 : params.vararg.isSome = false) (h4 : params.kwarg.isSome = false) (h5 : params.args.map (·.arg) = ps) (nd : ps.Nodup) (hl : us.length = ps.length) :
    bindArgs (PySem.W.fnOf name qual params body scope .none kV doc pm an cdv ct) ⟨us, []⟩ = pure (ps.zip us) := by
  obtain ⟨po, as, va, ko, kd, kw, df⟩ := params
  dsimp only at h1 h2 h3 h4 h5
  subst h1 h2
  cases va with
  | some _ => cases h3
  | none =>
    cases kw with
    | some _ => cases h4
    | none =>
      subst h5
      have hm : ((as.map (·.arg)).filter fun n => (((as.map (·.arg)).zip us).lookup n).isNone) = [] := by
        rw [List.filter_eq_nil_iff]
        intro x hx
        have := zip_look (us := us) x hx hl
        cases q : ((as.map (·.arg)).zip us).lookup x with
        | none => rw [q] at this; cases this
        | some v => simp
      have hf := zip_fm nd hl
      unfold bindArgs PySem.W.fnOf
      have hs : seqItems? Value.none = pure none := rfl
      simp [hs, hl, List.take_of_length_le]
      have ht : (List.take ((List.map (fun x : Arg => x.arg) [] ++ List.map (fun x : Arg => x.arg) as).length - (List.drop (#[].size (α := Value) - (List.map (fun x : Arg => x.arg) [] ++ List.map (fun x : Arg => x.arg) as).length) ([] : List Value)).length) (List.map (fun x : Arg => x.arg) [] ++ List.map (fun x : Arg => x.arg) as)) = as.map (·.arg) := by simp [List.take_of_length_le]
      rw [if_neg (by rw [ht, hm]; simp)]
      rw [List.filterMap_map] at hf
      exact congrArg pure hf
def plainA (a : Arguments) (ps : List Str) : Bool := a.posonlyargs.isEmpty && (a.kwonlyargs.isEmpty && (!a.vararg.isSome && (!a.kwarg.isSome && (decide (a.args.map (·.arg) = ps) && decide ps.Nodup))))
end Mi

set_option Elab.async false
set_option linter.all false
set_option maxRecDepth 100000
set_option maxHeartbeats 4000000
/-! Mi40: the __init__ of an exception class: super().__init__(..), then the fields. -/
namespace Mi
open PySem PySem.Spec L2
open PyProof.Rows (Fr News envOfC AllBare)
open PySem.W (ks_superIn ksFn kxs_mw)

/-! ### names -/
theorem zip_rev : ∀ {ps : List Str} {us : List Value} {i : Nat} {x : Str} {v : Value}, ps.Nodup → ps[i]? = some x → us[i]? = some v → (ps.zip us).reverse.lookup x = some v
  | [], _, _, _, _, _, h, _ => by simp at h
  | _ :: _, [], _, _, _, _, _, h => by simp at h
  | p :: ps, u :: us, 0, x, v, nd, h1, h2 => by
    simp at h1 h2
    subst h1 h2
    rw [List.zip_cons_cons, List.reverse_cons]
    have : (ps.zip us).reverse.lookup p = none := by
      rw [List.lookup_eq_none_iff]
      intro q hq
      have hm : q ∈ ps.zip us := List.mem_reverse.mp hq
      have := (List.of_mem_zip (show (q.1, q.2) ∈ ps.zip us from hm)).1
      simp
      intro z
      exact (List.nodup_cons.mp nd).1 (z ▸ this)
    rw [List.lookup_append, this]
    simp
  | p :: ps, u :: us, i + 1, x, v, nd, h1, h2 => by
    rw [List.zip_cons_cons, List.reverse_cons, List.lookup_append, zip_rev (List.nodup_cons.mp nd).2 (by simpa using h1) (by simpa using h2)]
    rfl
/-- the fields stored over m0 -/
def ovr : (Str → Option Value) → List Str → List Value → Str → Option Value
  | m0, f :: fs, u :: us => ovr (fun y => if y = f then some u else m0 y) fs us
  | m0, _, _ => m0
theorem ovr_no : ∀ {fs : List Str} {us : List Value} {m0 : Str → Option Value} {y : Str}, y ∉ fs → ovr m0 fs us y = m0 y
  | [], us, m0, y, _ => by cases us <;> rfl
  | f :: fs, [], m0, y, _ => rfl
  | f :: fs, u :: us, m0, y, h => by
    simp only [List.mem_cons, not_or] at h
    show ovr _ fs us y = _
    rw [ovr_no h.2, if_neg h.1]
theorem ovr_rel : ∀ {fs : List Str} {vs : List V} {us : List Value} {m0 : Str → Option Value}, fs.Nodup → Vals vs us → fs.length = us.length → (∀ y, y ∉ fs → m0 y = none) → ∀ y, RelO ((fs.zip vs).lookup y) (ovr m0 fs us y)
  | [], vs, us, m0, nd, h, hl, h0, y => by
    cases us with
    | nil =>
      cases h
      show RelO (List.lookup y []) (m0 y)
      rw [h0 y (by simp)]
      exact True.intro
    | cons u us => simp at hl
  | f :: fs, vs, us, m0, nd, h, hl, h0, y => by
    cases h with
    | nil => simp at hl
    | @cons v u vs us r rr =>
      show RelO (List.lookup y ((f, v) :: fs.zip vs)) (ovr (fun y => if y = f then some u else m0 y) fs us y)
      obtain ⟨n1, n2⟩ := List.nodup_cons.mp nd
      by_cases e : y = f
      · subst e
        rw [ovr_no n1, if_pos rfl]
        simp [List.lookup_cons]
        exact r
      · have e' : (y == f) = false := by simpa using e
        rw [List.lookup_cons, e']
        -- the rest: what lies below f does not matter
        have key : ∀ (m1 m2 : Str → Option Value), m1 y = m2 y → ovr m1 fs us y = ovr m2 fs us y := by
          clear hl rr h0 r n2 n1 nd
          induction fs generalizing us with
          | nil => intro m1 m2 q; cases us <;> exact q
          | cons g gs ih =>
            intro m1 m2 q
            cases us with
            | nil => exact q
            | cons w ws =>
              show ovr _ gs ws y = ovr _ gs ws y
              refine ih _ _ ?_
              by_cases eg : y = g
              · rw [if_pos eg, if_pos eg]
              · rw [if_neg eg, if_neg eg, q]
        rw [key _ (fun z => if z = f then none else m0 z) (by rw [if_neg e, if_neg e])]
        refine ovr_rel n2 rr (by simpa using hl) (fun z hz => ?_) y
        by_cases ez : z = f
        · rw [if_pos ez]
        · rw [if_neg ez]
          exact h0 z (by simp [ez, hz])

theorem forIn_same {σ α : Type} {P : σ → α → Prop} {f : α → σ → Sem (ForInStep σ)} {S : σ} : ∀ {l : List α}, (∀ x ∈ l, f x S = pure (.yield S)) → (forIn l S f : Sem σ) = pure S
  | [], _ => rfl
  | x :: l, h => by
    rw [List.forIn_cons, h x (List.mem_cons_self ..)]
    exact (pure_bind _ _).trans (forIn_same (P := P) fun y hy => h y (List.mem_cons_of_mem _ hy))
theorem bind_dflt {name qual : Str} {params : Arguments} {body : List Stmt} {scope : Scope} {cl : List (Str × Addr)} {kV doc pm cdv ct : Value} {T : Addr} {an : Option Addr} {ps : List Str} {us : List Value} (h1 : params.posonlyargs = []) (h2 : params.kwonlyargs = []) (h3 : params.vararg.isSome = false) (h4 : params.kwarg.isSome = false) (h5 : params.args.map (·.arg) = ps) (nd : ps.Nodup) (hl : us.length = ps.length) :
    ∃ k, bindArgs (PySem.W.fnX name qual params body scope cl (.ref T) kV doc pm an cdv ct) ⟨us, []⟩ = seqItems? (.ref T) >>= k ∧ ∀ its : Array Value, its.size ≤ ps.length → k (some its) = pure (ps.zip us) := by
  obtain ⟨po, as, va, ko, kd, kw, df⟩ := params
  dsimp only at h1 h2 h3 h4 h5
  subst h1 h2
  cases va with
  | some _ => cases h3
  | none =>
    cases kw with
    | some _ => cases h4
    | none =>
      subst h5
      have hlk : ∀ x ∈ as.map (·.arg), (((as.map (·.arg)).zip us).lookup x).isNone = false := fun x hx => by
        have := zip_look (us := us) x hx hl
        cases q : ((as.map (·.arg)).zip us).lookup x with
        | none => rw [q] at this; cases this
        | some v => rfl
      have hf := zip_fm nd hl
      refine ⟨_, rfl, fun its hz => ?_⟩
      simp only [Option.getD_some, List.map_nil, List.nil_append]
      rw [if_neg (by simp [hl])]
      rw [if_neg (by
        rw [List.filter_eq_nil_iff.mpr fun x hx => by rw [hlk x (List.mem_of_mem_take hx)]; simp]
        simp)]
      rw [forIn_same (P := fun _ _ => True) (S := (List.map (fun x => x.arg) as).zip us) fun x hx => by
        have hm := List.mem_of_mem_drop (List.of_mem_zip (show (x.1, x.2) ∈ _ from hx)).1
        rw [if_neg (by rw [hlk _ hm]; simp)]]
      rw [pure_bind]
      show ((forIn [] _ _ : Sem _) >>= _) = _
      rw [List.forIn_nil, pure_bind, List.append_nil]
      rw [if_neg (by simp)]
      exact congrArg pure hf
/-! ### the text -/
def nameIs (x : Str) : Expr → Bool | .Name y _ => decide (y = x) | _ => false
def namesAre : List Str → List Expr → Bool
  | [], [] => true
  | x :: xs, e :: es => nameIs x e && namesAre xs es
  | _, _ => false
def storesB : List Str → List Stmt → Bool
  | [], [] => true
  | f :: fs, .Assign [.Attribute o g _] v _ :: sts => nameIs "self" o && (decide (g = f) && (nameIs f v && storesB fs sts))
  | _, _ => false
def initB (fs : List Str) : List Stmt → Bool
  | .Expr (.Call (.Attribute (.Call (.Name s _) [] [] _) i ap) args [] p) _ :: sts => decide (s = "super") && (decide (i = "__init__") && ((ap.endLine == p.line) && (decide (args.length < 30) && (decide (args ≠ []) && (namesAre fs args && storesB fs sts)))))
  | _ => false
theorem nameIs_ok {x : Str} {e : Expr} (h : nameIs x e = true) : ∃ p, e = .Name x p := by
  unfold nameIs at h
  split at h
  · rename_i y p
    exact ⟨p, by rw [of_decide_eq_true h]⟩
  · cases h

/-! ### the stores -/
section
open PySem.W
variable {prog : Program} {w : World} {A : Around} {E : Value → Shared → Prop} {K : Frag} {env : Env} {e C : Addr} {ml : Str → Option Value}
theorem ld_local {s : Shared} {x : Str} {p : Pos} {v : Value} {Q : Value → Shared → Prop} (hk : env.scope.kind = .function) (hl : env.kindOf x = some .local) (hn : s.heap.Ns env.locals ml) (hv : ml x = some v) (hd : (x == ("__debug__" : Str)) = false) (h : Q v s) :
    wpAny (model prog w) A (eval (.Name x p) env) Q E s := wpAny_Name (wpAny_loadName_local hk hl hn hv h) hd
theorem swA {v : Expr} {o : Expr} {f : Str} {q : Pos} {l : Nat} : swapsWith v (some (.Attribute o f q)) l env = pure false := swA_ok
/-- the further fields -/
theorem stores_old (hk : env.scope.kind = .function) (hself : env.kindOf "self" = some .local) (hms : ml "self" = some (.ref e)) {cd : ClassData} (hcd : clsIn K C = some cd) (hm : HandSPX.refsVE cd.mro = true) (hh : cd.hasDict = true) (sa : findIn K (.ref C) "__setattr__" = some (some (.builtin "object.__setattr__"))) :
    ∀ {fs : List Str} {us : List Value} {sts : List Stmt} {s : Shared} {dx : Addr} {fv : Array Value} {m0 : Str → Option Value} {nl : List Str} {Q : Flow → Shared → Prop}, storesB fs sts = true → fs.length = us.length →
      (∀ (i : Nat) (f : Str), fs[i]? = some f → env.kindOf f = some .local ∧ ml f = us[i]? ∧ (f == ("__debug__" : Str)) = false ∧ findIn K (.ref C) f = some none) → K.In s.heap → s.heap.Ns env.locals ml → env.locals ≠ dx → e ≠ dx →
      s.heap.get? e = some { cls := .ref C, dict := some dx, data := .fields fv } → s.heap.Ns1 dx m0 → Within m0 nl → nl.length + fs.length ≤ 900 → (∀ b o, K.lookup b = some o → b ≠ dx) →
      (∀ s' : Shared, (∀ b o, b ≠ dx → s.heap.get? b = some o → s'.heap.get? b = some o) → s'.heap.Ns1 dx (ovr m0 fs us) → s'.gens = s.gens → s'.os = s.os → Q .next s') → wpAny (model prog w) A (execs sts env) Q E s
  | [], us, sts, s, dx, fv, m0, nl, Q, hst, hl, hloc, X, hns, hL, hne, he, hd, hw, hz, hK, q => by
    cases sts with
    | cons _ _ => cases hst
    | nil =>
      cases us with
      | cons _ _ => simp at hl
      | nil => exact wpAny_execs_nil (q s (fun _ _ _ z => z) hd rfl rfl)
  | f :: fs, [], sts, s, dx, fv, m0, nl, Q, hst, hl, hloc, X, hns, hL, hne, he, hd, hw, hz, hK, q => by simp at hl
  | f :: fs, u :: us, sts, s, dx, fv, m0, nl, Q, hst, hl, hloc, X, hns, hL, hne, he, hd, hw, hz, hK, q => by
    unfold storesB at hst
    split at hst
    case h_1 => rename_i z; cases z
    case h_3 => cases hst
    rename_i f' fs' o g q1 v q2 sts' heq
    cases heq
    simp only [Bool.and_eq_true, decide_eq_true_eq] at hst
    obtain ⟨ho, rfl, hv, hst⟩ := hst
    obtain ⟨p1, rfl⟩ := nameIs_ok ho
    obtain ⟨p2, rfl⟩ := nameIs_ok hv
    obtain ⟨l1, l2, l3, l4⟩ := hloc 0 g rfl
    refine wpAny_execs_cons (plainObj_wpAny_Assign_Attribute ?_ swA)
    refine ld_local hk l1 hns l2 l3 ?_
    refine ld_local hk hself hns hms (by decide +kernel) ?_
    obtain ⟨oD, esD, epD, hoD, hdD, _⟩ := hd.count hw
    refine set_plain X (ox := { cls := .ref C, dict := some dx, data := .fields fv }) (od := some oD) ⟨he, rfl, rfl, hoD⟩ sa ?_
    obtain ⟨hp, gg, dd, t, os⟩ := s
    refine OEX.osa_old X he hd hw (by omega) hcd hm hh l4 fun h' tk' k hn => ?_
    have hloc' : ∀ (i : Nat) (f : Str), fs[i]? = some f → env.kindOf f = some .local ∧ ml f = us[i]? ∧ (f == ("__debug__" : Str)) = false ∧ findIn K (.ref C) f = some none := fun i f hi => by
      have := hloc (i + 1) f (by simpa using hi)
      simpa using this
    have nsL : h'.Ns env.locals ml := by
      obtain ⟨o, es, ep, e1, e2, r⟩ := hns
      exact ⟨o, es, ep, k _ _ hL e1, e2, r⟩
    refine stores_old hk hself hms hcd hm hh sa (fs := fs) (us := us) (nl := g :: nl) hst (by simpa using hl) hloc' (fun b o z => k _ _ (hK b o z) (X b o z)) nsL hL hne (k _ _ hne he) hn (Within.cons g u hw) (by simp at hz ⊢; omega) hK fun s' k' hn' hg hos => q s' (fun b o hb z => k' b o hb (k b o hb z)) hn' hg hos
/-- what the written part says of an exception's class and its __init__, at f, of the text st with the fields fs -/
structure ExI (prog : Program) (K : Frag) (C f : Addr) (fs : List Str) (st : Stmt) (qual : Str) : Prop where
  ox : L2.OexC K C
  iC : findIn K (.ref C) "__init__" = some (some (.ref f))
  tI : typeIn K (.ref f) = some (.type "function")
  fn : ∃ (oc dV kV doc pm ct ccl cl : Value) (od an cdd cld : Option Addr) (osl ccs csl : Array (Option Value)) (cda cc : Addr) (vs : Array Value) (file : Str) (tf : Tok), K.lookup f = some ⟨oc, od, .func (ksFn "__init__" qual (defArgs st) (defBody st) (defScope st) dV kV doc pm an (.ref cda) ct cc), osl⟩ ∧ codeIn K (.ref cda) qual = true ∧
    K.lookup cda = some ⟨ccl, cdd, .fields vs, ccs⟩ ∧ vs[2]? = some (.str file tf) ∧ ((prog.main.file : Str) == file) = true ∧ K.lookup cc = some ⟨cl, cld, .cell (some (.ref C)), csl⟩ ∧
    ∃ (T : Addr) (o : Obj) (its : Array Value) (n : Nat), dV = .ref T ∧ K.lookup T = some o ∧ o.data = .seq its n ∧ its.size ≤ fs.length + 1
  pa : plainA (defArgs st) (("self" : Str) :: fs) = true
  sc : (defScope st).kind = .function ∧ (defScope st).isCoroutine = false ∧ (defScope st).isGenerator = false ∧ (∀ x ∈ (defScope st).names, x.2 ≠ .cell) ∧ (∀ x ∈ ("self" : Str) :: fs, (defScope st).names.lookup x = some .local ∧ (x == ("__debug__" : Str)) = false) ∧ (defScope st).names.lookup ("super" : Str) = some .globalImplicit ∧ (defScope st).names.lookup ("__class__" : Str) = some .free
  bd : initB fs (defBody st) = true
  mC : mroIn K C (.ref C) = some true
  su : ks_superIn K C C "__init__" = some (some (.builtin "ValueError.__init__"))
  vE : subIn K (.ref C) (.type "ValueError") = some true
  st3 : nsIn K cStatics "thirdparty.any" = some none
  nf : ∀ x ∈ fs, findIn K (.ref C) x = some none

theorem meth_eval' {o : Expr} {m : Str} {xs : List Expr} {apos pos : Pos} (hs : xs.all Mi.ns = true) (hn : xs.length < 30) (hl : (apos.endLine == pos.line) = true) :
    eval (.Call (.Attribute o m apos) xs [] pos) env = (do
      let ov ← attributeBase o m env (eval o env)
      standAt apos.atName
      let (f, first) ← holding [ov] (getMethod ov m (pl0 o env))
      callWith pos f first (backTo pos (starEach xs env)) []) := by
  rw [arm_eval_Call]
  have few : methodCallForm (xs.length + ([] : List Keyword).length) (backTo pos (starEach xs env)) (backToKw pos (keywordEach [] env)) = true := by
    unfold methodCallForm
    rw [star_all hs]
    have : (xs.length + 0 + 0 < 30) := by omega
    simp only [List.length_nil, keywordEach, backToKw, List.map_nil, List.all_nil, Bool.and_self, Bool.true_and, List.isEmpty_nil, if_true]
    exact decide_eq_true this
  unfold methodCall
  rw [few]
  unfold methodCallPos
  rw [hl]
  rfl
theorem namesAre_ns : ∀ {fs : List Str} {args : List Expr}, namesAre fs args = true → args.all Mi.ns = true
  | [], [], _ => rfl
  | [], _ :: _, h => by cases h
  | _ :: _, [], h => by cases h
  | f :: fs, a :: as, h => by
    have h' : (nameIs f a && namesAre fs as) = true := h
    simp only [Bool.and_eq_true] at h'
    obtain ⟨p, rfl⟩ := nameIs_ok h'.1
    simp [namesAre_ns h'.2, Mi.ns]
theorem namesAre_head {fs : List Str} {a : Expr} {as : List Expr} (h : namesAre fs (a :: as) = true) : Mi.ns a = true := by
  have := namesAre_ns h
  simp only [List.all_cons, Bool.and_eq_true] at this
  exact this.1
/-- the arguments, all of them names -/
theorem args_ok {pos : Pos} (hk : env.scope.kind = .function) : ∀ {fs : List Str} {us : List Value} {args : List Expr} {s : Shared} {Q : List Value → Shared → Prop}, namesAre fs args = true → fs.length = us.length → s.heap.Ns env.locals ml →
    (∀ (i : Nat) (f : Str), fs[i]? = some f → env.kindOf f = some .local ∧ ml f = us[i]? ∧ (f == ("__debug__" : Str)) = false) → Q us s → wpAny (model prog w) A (spliced (backTo pos (starEach args env))) Q E s
  | [], us, args, s, Q, h, hl, hn, hloc, q => by
    cases args with
    | cons _ _ => cases h
    | nil =>
      cases us with
      | cons _ _ => simp at hl
      | nil => exact PyProof.Rows.spliced_none q
  | f :: fs, [], args, s, Q, h, hl, hn, hloc, q => by simp at hl
  | f :: fs, u :: us, args, s, Q, h, hl, hn, hloc, q => by
    cases args with
    | nil => cases h
    | cons a as =>
      have h' : (nameIs f a && namesAre fs as) = true := h
      simp only [Bool.and_eq_true] at h'
      obtain ⟨p, rfl⟩ := nameIs_ok h'.1
      obtain ⟨l1, l2, l3⟩ := hloc 0 f rfl
      refine PyProof.Rows.spliced_more (ld_local hk l1 hn l2 l3 ?_) (star_cons rfl)
      exact args_ok hk h'.2 (by simpa using hl) hn (fun i g hg => by simpa using hloc (i + 1) g (by simpa using hg)) q
theorem evargs_ok {pos : Pos} {f : Value} {fs : List Str} {us : List Value} {a : Expr} {as : List Expr} {s : Shared} {Q : Args → Shared → Prop} (hk : env.scope.kind = .function) (h : namesAre fs (a :: as) = true) (hl : fs.length = us.length) (hn : s.heap.Ns env.locals ml)
    (hloc : ∀ (i : Nat) (f : Str), fs[i]? = some f → env.kindOf f = some .local ∧ ml f = us[i]? ∧ (f == ("__debug__" : Str)) = false) (q : Q ⟨us, []⟩ s) : wpAny (model prog w) A (evalArgs f true (backTo pos (starEach (a :: as) env)) []) Q E s := by
  have h2 := args_ok (prog := prog) (w := w) (A := A) (E := E) (pos := pos) (Q := fun vs s' => Q ⟨vs, []⟩ s') hk h hl hn hloc q
  rw [star_cons (namesAre_head h)] at h2 ⊢
  exact PySem.Calls.evalArgs_plain h2
theorem raw_init {R : Result → Shared → Prop} {s : Shared} {f t0 : Addr} {fs : List Str} {st : Stmt} {qual : Str} {us : List Value} {mg mb : Str → Option Value} (T : ExI prog K C f fs st qual) (X : K.In s.heap) (hg : s.heap.Ns mainGlobals mg) (hms : mg "super" = none) (hb : s.heap.Ns builtinsNs mb) (hbb : ∀ x : Str, x ≠ "__name__" → mb x = bootBuiltins x)
    (hlim : s.heap.NoLimit) (htop : (prog.main.scope.names.lookup ("super" : Str)).isSome = false) (hroom : A.depth < recursionLimit) (he : s.heap.get? e = some (HandSPX.excO C t0)) (hKe : ∀ b o, K.lookup b = some o → b ≠ e) (hl : fs.length = us.length) (hz : us.length ≤ 800)
    (q : ∀ s' : Shared, (∀ b o, b ≠ e → s.heap.get? b = some o → s'.heap.get? b = some o) → (∃ t1 dx, s.heap.objs.size ≤ dx ∧ dx ≠ e ∧ s'.heap.get? e = some { cls := .ref C, dict := some dx, data := .fields #[.ref t1, .none, .none, .none, .bool false, .none] } ∧ s'.heap.Ns1 dx (ovr (fun _ => none) fs us)) → s'.gens = s.gens → s'.os = s.os → R (.ok (.ret .none)) s') :
    codeAny (model prog w) A (.call (.ref f) ⟨.ref e :: us, []⟩) R s := by
  obtain ⟨oc, dV, kV, doc, pm, ct, ccl, cl, od, an, cdd, cld, osl, ccs, csl, cda, cc, vs, file, tf, lkf, hcd, lkc, hvs, hfile, lkcell, Tt, oT, its, nT, rfl, lkT, hoT, hits⟩ := T.fn
  obtain ⟨sk, sco, sgen, scell, sloc, ssup, scls⟩ := T.sc
  obtain ⟨nm, q', N', bs, bm, sn, sub, ab, col, dd, k0, k1, k2, k3, k5, hC, hbm⟩ := T.ox.cls
  have hcl : clsIn K C = some { name := nm, bases := bs, mro := .ref C :: bm, ns := N', qualname := q', hasDict := true, slotNames := sn, subclasses := sub, abstract := ab, collection := col, hasDel := false } := by unfold clsIn; rw [hC] <;> rfl
  have hpa := T.pa
  unfold plainA at hpa
  simp only [Bool.and_eq_true, decide_eq_true_eq, List.isEmpty_iff, Bool.not_eq_true'] at hpa
  obtain ⟨p1, p2, p3, p4, p5, p6⟩ := hpa
  have hlen : (Value.ref e :: us).length = (("self" : Str) :: fs).length := by simp [hl]
  have hbind : BindsTo s (ksFn "__init__" qual (defArgs st) (defBody st) (defScope st) (.ref Tt) kV doc pm an (.ref cda) ct cc) ⟨.ref e :: us, []⟩ ((("self" : Str) :: fs).zip (.ref e :: us)) := by
    obtain ⟨k, e1, e2⟩ := bind_dflt (name := "__init__") (qual := qual) (body := defBody st) (scope := defScope st) (cl := [("__class__", cc)]) (kV := kV) (doc := doc) (pm := pm) (cdv := .ref cda) (ct := ct) (T := Tt) (an := an) p1 p2 p3 p4 p5 p6 hlen
    refine BindsTo.of_looks fun M => ?_
    rw [e1]
    exact looks_items X lkT hoT (.of_pure (e2 its (by simpa using hits)))
  refine ks_codeAny_call_defAt hroom (X _ _ lkf) rfl hlim (codeRec_of X hcd) rfl hbind scell (fun x hx => ?_) (fun h₀ hns hk₀ => ?_) sco sgen sk
  · obtain ⟨y, u⟩ := x
    exact (sloc y (List.of_mem_zip hx).1).1
  generalize henv : callEnv (ksFn "__init__" qual (defArgs st) (defBody st) (defScope st) (.ref Tt) kV doc pm an (.ref cda) ct cc) s.heap.objs.size f = env
  have en1 : env.scope = defScope st := by rw [← henv] <;> rfl
  have en2 : env.func = some f := by rw [← henv] <;> rfl
  have en3 : env.code = .ref cda := by rw [← henv] <;> rfl
  have en4 : env.locals = s.heap.objs.size := by rw [← henv] <;> rfl
  have en5 : env.cells = [(("__class__" : Str), cc)] := by rw [← henv] <;> rfl
  have en6 : env.globals = mainGlobals := by rw [← henv] <;> rfl
  have en7 : env.builtins = builtinsNs := by rw [← henv] <;> rfl
  have ekind : env.scope.kind = .function := by rw [en1]; exact sk
  have kof : ∀ x, env.kindOf x = (defScope st).names.lookup x := fun x => by
    show env.scope.names.lookup x = _
    rw [en1]
  have hint : interactive env = false := by
    unfold interactive
    rw [ekind]
    rfl
  -- the names
  have mself : ((("self" : Str) :: fs).zip (.ref e :: us)).reverse.lookup ("self" : Str) = some (.ref e) := zip_rev p6 (i := 0) rfl rfl
  have mfs : ∀ (i : Nat) (x : Str), fs[i]? = some x → env.kindOf x = some .local ∧ ((("self" : Str) :: fs).zip (.ref e :: us)).reverse.lookup x = us[i]? ∧ (x == ("__debug__" : Str)) = false := fun i x hx => by
    have hi : i < us.length := by
      have := (List.getElem?_eq_some_iff.mp hx).1
      omega
    have hm := sloc x (List.mem_cons_of_mem _ (List.mem_of_getElem? hx))
    refine ⟨by rw [kof]; exact hm.1, ?_, hm.2⟩
    rw [List.getElem?_eq_getElem hi]
    exact zip_rev p6 (i := i + 1) (by simpa using hx) (by simp [List.getElem?_eq_getElem hi])
  have hself : env.kindOf "self" = some .local := by
    rw [kof]
    exact (sloc "self" (List.mem_cons_self ..)).1
  have X₀ : K.In h₀ := fun b o z => hk₀ b o (X b o z)
  have nsk : ∀ {b : Addr} {m : Str → Option Value}, s.heap.Ns b m → h₀.Ns b m := fun {b m} ⟨o, es, ep, e1, e2, r⟩ => ⟨o, es, ep, hk₀ _ _ e1, e2, r⟩
  have hbd := T.bd
  unfold initB at hbd
  split at hbd
  case h_2 => cases hbd
  rename_i sname sp1 sp2 iname ap args p ep sts hbody
  simp only [Bool.and_eq_true, decide_eq_true_eq] at hbd
  obtain ⟨rfl, rfl, hline, hfew, hne, hargs, hst⟩ := hbd
  rw [hbody]
  refine ks_wpAt_execs_cons (ks_wpAt_Expr_any (ks_wpAt_MethodCall ?_ (meth_eval' (namesAre_ns hargs) hfew hline)) hint rfl)
  -- super()
  have hCo : ∀ {h : Heap}, K.In h → ∃ oD, h.get? C = some oD ∧ oD.data = .cls { name := nm, bases := bs, mro := .ref C :: bm, ns := N', qualname := q', hasDict := true, slotNames := sn, subclasses := sub, abstract := ab, collection := col, hasDel := false } := fun X => ⟨_, X _ _ hC, rfl⟩
  obtain ⟨a0, ra, har, ha0⟩ : ∃ a0 ra, (defArgs st).args = a0 :: ra ∧ a0.arg = "self" := by
    cases q : (defArgs st).args with
    | nil => rw [q] at p5; cases p5
    | cons a0 ra =>
      rw [q] at p5
      exact ⟨a0, ra, rfl, (List.cons.inj p5).1⟩
  refine ks_wpAt_super_base (ar := a0) (by rw [kof]; exact ssup) (by rw [kof]; exact scls) (by decide +kernel) en2 (X₀ _ _ lkf) rfl ?_ en3 (X₀ _ _ lkc) rfl hvs hfile htop ?_
  · show ((defArgs st).posonlyargs ++ (defArgs st).args).head? = some a0
    rw [p1, har]
    rfl
  refine ks_loadName_global ekind (by rw [kof]; exact ssup) (PySem.Calls.loadGlobal_builtin (mg := mg) (mb := mb) (by rw [en6]; exact nsk hg) hms (by rw [en7]; exact nsk hb) ((hbb _ (by decide +kernel)).trans PyProof.Rows.Boot.«super») ⟨rfl, ?_⟩)
  refine wpAny_loadName_free ekind (by rw [kof]; exact scls) (c := cc) (by rw [en5]; rfl) ⟨_, X₀ _ _ lkcell, rfl⟩ ?_
  rw [ha0]
  have hns' : h₀.Ns env.locals (fun x => ((("self" : Str) :: fs).zip (.ref e :: us)).reverse.lookup x) := by rw [en4]; exact hns
  refine wpAny_loadName_local ekind hself hns' mself ?_
  obtain ⟨oD, hD1, hD2⟩ := hCo X₀
  refine ks_wpAny_isType_cls hD1 hD2 ⟨rfl, ?_⟩
  have he0 : h₀.get? e = some (HandSPX.excO C t0) := hk₀ _ _ he
  refine ks_wpAny_call_super hD1 hD2 he0 rfl (fun c z => by cases z) (looks_mroIn X₀ T.mC) fun h1 hso k1 => ?_
  have X1 : K.In h1 := fun b o z => k1 b o (X₀ b o z)
  have I1 : InstAt h1 e (HandSPX.excO C t0) C none := ⟨k1 _ _ he0, rfl, rfl, trivial⟩
  have hIV : Looks (model prog w) h1 (isInstance (.ref e) (.type "ValueError")) true := I1.type.andThen (looks_subIn X1 T.vE)
  have hsu := T.su
  unfold ks_superIn at hsu
  rw [hcl] at hsu
  refine kxs_getMethod kxs_ValueError hso (looks_opaque X1 T.st3) (l₀ := .ref C :: bm) ?_ rfl X1 hsu hIV (ks_ne X1 I1 hcl) (by decide +kernel) ?_
  · exact fun A Q E s k q => wpAny_bind ((looks_clsIn X1 hcl) A _ E s k (wpAny_pure q))
  -- .. called
  have k2 : ∀ b o, h1.get? b = some o → (h1.push (kxs_mw "ValueError.__init__" e)).get? b = some o := fun b o z => Heap.get?_push_of_some _ z
  have hu2 : (h1.push (kxs_mw "ValueError.__init__" e)).get? h1.objs.size = some (kxs_mw "ValueError.__init__" e) := Heap.get?_push_size h1 rfl
  obtain ⟨a1, as, rfl⟩ : ∃ a1 as, args = a1 :: as := by
    cases args with
    | nil => exact absurd rfl hne
    | cons a1 as => exact ⟨a1, as, rfl⟩
  have nsL : ∀ {h : Heap}, (∀ b o, h1.get? b = some o → h.get? b = some o) → h.Ns env.locals (fun x => ((("self" : Str) :: fs).zip (.ref e :: us)).reverse.lookup x) := fun {h} k => by
    obtain ⟨o, es, ep, e1, e2, r⟩ := hns'
    exact ⟨o, es, ep, k _ _ (k1 _ _ e1), e2, r⟩
  refine kxs_callWith (i := "ValueError.__init__") (x := e) (star_any (namesAre_ns hargs)) ?_
  refine evargs_ok ekind hargs hl (nsL k2) mfs ⟨hu2, ?_⟩
  have X2 : K.In (h1.push (kxs_mw "ValueError.__init__" e)) := fun b o z => k2 b o (X1 b o z)
  have he2 : (h1.push (kxs_mw "ValueError.__init__" e)).get? e = some (HandSPX.excO C t0) := k2 _ _ (k1 _ _ he0)
  have FB := F.excBase_ValueError
  refine wpAny_call (codeAny_of_tree ?_)
  show wpAny _ _ (callAny (.ref h1.objs.size) ⟨us, []⟩) _ _ _
  simp only [callAny]
  refine wpAny_bind (wpAny_load hu2 ?_)
  simp only [kxs_mw, show (Value.type "method-wrapper" == Value.type "method" || Value.type "method-wrapper" == Value.type "builtin_function_or_method" || Value.type "method-wrapper" == Value.type "method-wrapper") = true by decide, if_true]
  refine KFB.if_so (by decide) ?_
  refine wpAny_bind (check_bound_init FB.toExcCallFacts (X2 _ _ hC) he2 rfl ?_)
  refine wpAny_bind (wpAny_pure (wpAny_pure ?_))
  refine ⟨plainId_quiet FB.init.plain _, codeAny_builtin FB.initEntry ?_⟩
  refine exc_init_tree (cls := .ref C) (t0 := t0) (dv := none) (c2 := .none) (c3 := .none) (b4 := .bool false) he2 (by rw [sizeLine_eq]; omega) fun h3 k3 e3 _ => ?_
  -- the first field
  have hdd : s.heap.objs.size ≤ h3.objs.size := by
    obtain ⟨o, es, ep, e1, _⟩ := nsL k2
    have neL : env.locals ≠ e := by
      rw [en4]
      exact (Nat.ne_of_lt (Heap.lt_size he)).symm
    have := Heap.lt_size (k3 _ _ neL e1)
    rw [en4] at this
    exact Nat.le_of_lt this
  refine wpAt_of_wpAny ?_
  cases fs with
  | nil => cases hargs
  | cons f0 fr =>
    cases us with
    | nil => simp at hl
    | cons u0 ur =>
      unfold storesB at hst
      split at hst
      case h_1 => rename_i z; cases z
      case h_3 => cases hst
      rename_i f' fs' o g q1 v q2 sts' heq
      cases heq
      simp only [Bool.and_eq_true, decide_eq_true_eq] at hst
      obtain ⟨ho, rfl, hv, hst⟩ := hst
      obtain ⟨r1, rfl⟩ := nameIs_ok ho
      obtain ⟨r2, rfl⟩ := nameIs_ok hv
      obtain ⟨l1, l2, l3⟩ := mfs 0 g rfl
      have neL : env.locals ≠ e := by
        rw [en4]
        exact (Nat.ne_of_lt (Heap.lt_size he)).symm
      have k4 : ∀ b o, b ≠ e → s.heap.get? b = some o → h3.get? b = some o := fun b o hb z => k3 _ _ hb (k2 _ _ (k1 _ _ (hk₀ _ _ z)))
      have X3 : K.In h3 := fun b o z => k4 _ _ (hKe b o z) (X b o z)
      have nsL3 : h3.Ns env.locals (fun x => ((("self" : Str) :: g :: fr).zip (.ref e :: u0 :: ur)).reverse.lookup x) := by
        obtain ⟨o, es, ep, e1, e2, r⟩ := nsL k2
        exact ⟨o, es, ep, k3 _ _ neL e1, e2, r⟩
      refine wpAny_execs_cons (plainObj_wpAny_Assign_Attribute ?_ swA)
      refine ld_local ekind l1 nsL3 l2 l3 ?_
      refine ld_local ekind hself nsL3 mself (by decide +kernel) ?_
      refine set_plain X3 (ox := { cls := .ref C, dict := none, data := .fields #[.ref (h1.push (kxs_mw "ValueError.__init__" e)).objs.size, .none, .none, .none, .bool false, .none] }) (od := none) ⟨e3, rfl, rfl, trivial⟩ T.ox.sa ?_
      have hmro : HandSPX.refsVE (.ref C :: bm) = true := hbm
      refine HandSPX.exc_osa X3 e3 hcl hmro rfl (T.nf g (List.mem_cons_self ..)) fun h5 tk5 dx k5' dxl dxe e5 n5 => ?_
      have dxs : s.heap.objs.size ≤ dx := Nat.le_trans hdd dxl
      have nsL5 : h5.Ns env.locals (fun x => ((("self" : Str) :: g :: fr).zip (.ref e :: u0 :: ur)).reverse.lookup x) := by
        obtain ⟨o, es, ep, e1, e2, r⟩ := nsL3
        exact ⟨o, es, ep, k5' _ _ neL e1, e2, r⟩
      have X5 : K.In h5 := fun b o z => k5' _ _ (hKe b o z) (X3 b o z)
      have neLd : env.locals ≠ dx := by
        obtain ⟨o, es, ep, e1, e2, r⟩ := nsL3
        exact Nat.ne_of_lt (Nat.lt_of_lt_of_le (Heap.lt_size e1) dxl)
      have hKd : ∀ b o, K.lookup b = some o → b ≠ dx := fun b o z => Nat.ne_of_lt (Nat.lt_of_lt_of_le (Heap.lt_size (X b o z)) dxs)
      have mfs' : ∀ (i : Nat) (x : Str), fr[i]? = some x → env.kindOf x = some .local ∧ ((("self" : Str) :: g :: fr).zip (.ref e :: u0 :: ur)).reverse.lookup x = ur[i]? ∧ (x == ("__debug__" : Str)) = false ∧ findIn K (.ref C) x = some none := fun i x hx => by
        have := mfs (i + 1) x (by simpa using hx)
        refine ⟨this.1, by simpa using this.2.1, this.2.2, T.nf x (List.mem_cons_of_mem _ (List.mem_of_getElem? hx))⟩
      refine stores_old (e := e) (C := C) ekind hself mself hcl hmro rfl T.ox.sa (us := ur) (nl := [g]) hst (by simpa using hl) mfs' X5 nsL5 neLd dxe.symm e5 n5 (fun y hy => ?_) (by simp at hz ⊢; simp at hl; omega) hKd fun s' k6 n6 hg6 ho6 => ?_
      · by_cases ey : y = g
        · rw [ey]
          exact List.mem_cons_self ..
        · exact absurd (if_neg ey) hy
      · refine q s' (fun b o hb z => ?_) ⟨_, dx, dxs, dxe, k6 _ _ dxe.symm e5, n6⟩ hg6 ho6
        exact k6 _ _ (Nat.ne_of_lt (Nat.lt_of_lt_of_le (Heap.lt_size z) dxs)) (k5' _ _ hb (k4 _ _ hb z))
end
end Mi

set_option Elab.async false
set_option linter.all false
set_option maxRecDepth 100000
set_option maxHeartbeats 4000000
/-! Mi41: C(..), C an exception's class; raise. -/
namespace Mi
open PySem PySem.Spec L2
open PyProof.Rows (Fr News envOfC AllBare)

section
variable {X : Cx} {pins : List (Addr × Obj)} {σ : L2.St} {H : Hp} {s s' : Shared} {C f : Addr} {fs : List Str} {st : Stmt} {qual x : Str} {p pos : Pos} {xs : List Expr} {ta : TA}
theorem inv_st (I : Inv X pins σ H s) (hh : s'.heap = s.heap) (ho : s'.os = s.os) (hg : s'.gens = s.gens) : Inv X pins σ H s' := by
  obtain ⟨h1, g1, d1, t1, o1⟩ := s
  obtain ⟨h2, g2, d2, t2, o2⟩ := s'
  dsimp only at hh ho hg
  subst hh ho hg
  exact ⟨I.ok, I.os, I.bare, I.base, I.loc, I.cell, I.free, I.freeC, I.pin, I.hok, I.len⟩
/-- the reading of C(..) -/
def tMkM (C : Addr) (fs : List Str) (ta : TA) : L2.St → Hp → XK → Prop := fun σ H Q => ta σ H fun vs H1 => vs.length = fs.length ∧ ∀ d, H1 d = none → Q (.ref C) (some d) (upd H1 d (.xd (fs.zip vs)))
theorem pmk_M (T : ExI X.prog X.K C f fs st qual) (hg : Gl X x) (hm : X.mg x = some (.ref C)) (hsu : X.mg "super" = none) (htop : (X.prog.main.scope.names.lookup ("super" : Str)).isSome = false) (hr : Room 2 X.A) (ha : PA X xs ta) (hs : xs.all ns = true) (hne : xs ≠ []) (hz : fs.length ≤ 800) (hdb : (x == ("__debug__" : Str)) = false) :
    PMk X (.Call (.Name x p) xs [] pos) (tMkM C fs ta) := by
  intro pins s σ H Q I h
  obtain ⟨nm, q, N, bs, bm, sn, sub, ab, col, dd, k0, k1, k2, k3, k5, hC, hbm⟩ := T.ox.cls
  refine wpAny_Call_Name_kw (ld_glob I hg hm ?_ hdb)
  obtain ⟨e1, es, rfl⟩ : ∃ e1 es, xs = e1 :: es := by
    cases xs with
    | nil => exact absurd rfl hne
    | cons e1 es => exact ⟨e1, es, rfl⟩
  simp only [List.all_cons, Bool.and_eq_true] at hs
  refine PySem.W.callWith_K (h₀ := X.base) I.ok.mod.kin T.ox.kC (thn (ha.run pos pins s σ H _ I h) fun us s1 ⟨vs, H1, I1, r1, hl, q1⟩ => ⟨I1.kIn, ?_⟩) (star_cons hs.1) (star_any hs.2)
  show wpAny _ _ (call (.ref C) us) _ _ _
  have hlu : us.length = fs.length := by rw [← hl]; exact r1.length.symm
  have nd : ((("self" : Str) :: fs).Nodup) := by
    have := T.pa
    unfold plainA at this
    simp only [Bool.and_eq_true, decide_eq_true_eq] at this
    exact this.2.2.2.2.2
  obtain ⟨hp, g, dr, tk, os⟩ := s1
  have hus : us.length ≤ sizeLine := by rw [sizeLine_eq]; omega
  have KB : X.K.In hp := I1.kIn
  have kk : ∀ b o, hp.get? b = some o → ((hp.push (PySem.W.kdv_tup us)).push (PySem.HandSPX.excO C hp.objs.size)).get? b = some o := fun b o e => Heap.get?_push_of_some _ (Heap.get?_push_of_some _ e)
  have hget : ((hp.push (PySem.W.kdv_tup us)).push (PySem.HandSPX.excO C hp.objs.size)).get? (hp.objs.size + 1) = some (PySem.HandSPX.excO C hp.objs.size) := by heap_get
  have up : ∀ {b : Addr} {m : Str → Option Value}, X.base.Ns b m → ((hp.push (PySem.W.kdv_tup us)).push (PySem.HandSPX.excO C hp.objs.size)).Ns b m := fun {b m} ⟨o, es, ep, z1, z2, r⟩ => ⟨o, es, ep, kk _ _ (I1.bk _ _ z1), z2, r⟩
  obtain ⟨mb, hblt, hbb⟩ := I1.ok.mod.blt
  have hlim : ((hp.push (PySem.W.kdv_tup us)).push (PySem.HandSPX.excO C hp.objs.size)).NoLimit := I1.ok.mod.nolimit.keeps fun b o e => kk _ _ (I1.bk _ _ e)
  refine wpAny_call (PySem.HandSPX.call_own F.excBase_ValueError (fun Y => PySem.HandSPX.refsVE_contains Y bm hbm) (KB _ _ hC) (PySem.W.looks_findIn KB T.iC) (fun self => PySem.W.bind_fn KB self T.tI) hus
    (raw_init (mg := X.mg) (mb := mb) T (fun b o e => kk _ _ (KB _ _ e)) (up I1.ok.mod.glob) hsu (up hblt) hbb hlim htop (hr.make C us []).depth hget (fun b o e => Nat.ne_of_lt (Nat.lt_succ_of_lt (Heap.lt_size (KB _ _ e)))) hlu.symm (by omega) fun s' k ⟨t1, dx, dxl, dxe, he, hn⟩ hgens hos => ?_))
  refine ⟨rfl, ?_⟩
  obtain ⟨h2, g2, d2, t2, os2⟩ := s'
  dsimp only at hgens hos he hn k
  subst hgens hos
  obtain ⟨G, g1', g2'⟩ := restrict h2 fun b => decide (b ≠ hp.objs.size + 1)
  have gk : ∀ b, b ≠ hp.objs.size + 1 → G.get? b = h2.get? b := fun b hb => g1' b (decide_eq_true hb)
  have ge : G.get? (hp.objs.size + 1) = none := g2' _ (by simp)
  have hdx : hp.objs.size ≤ dx := Nat.le_trans (by rw [Heap.size_push, Heap.size_push]; exact Nat.le_add_right _ 2) dxl
  have kG : ∀ b o, hp.get? b = some o → G.get? b = some o := fun b o e => by
    have hb : b ≠ hp.objs.size + 1 := Nat.ne_of_lt (Nat.lt_succ_of_lt (Heap.lt_size e))
    rw [gk b hb]
    exact k b o hb (kk _ _ e)
  have hnG : G.Ns1 dx (ovr (fun _ => none) fs us) := hn.at fun o y => (gk dx dxe).trans y
  have J : Inv X pins σ (upd H1 dx (.xd (fs.zip vs))) { (⟨hp, g2, dr, tk, os2⟩ : Shared) with heap := G, toks := t2 } := I1.laid (t' := t2) kG hdx ⟨_, hnG, ovr_rel (List.nodup_cons.mp nd).2 r1 hlu.symm fun _ _ => rfl⟩
  have na : H1 (hp.objs.size + 1) = none := I1.hok.fresh (Nat.le_succ _)
  refine ⟨hp.objs.size + 1, _, _, ⟨G, g2, d2, t2, os2⟩, upd H1 dx (.xd (fs.zip vs)), .ref C, some dx, rfl, inv_st J rfl rfl rfl, fun b o z => ?_, ge, he, ⟨rfl, rfl⟩, rfl, rfl, ?_, rfl, I1.bare, raises_own T.ox.exC T.ox.tyC, q1 dx (I1.hok.fresh hdx)⟩
  · by_cases hb : b = hp.objs.size + 1
    · rw [hb, ge] at z
      cases z
    · exact (gk b hb).symm.trans z
  · rw [upd_ne dxe.symm]
    exact na
end
end Mi

set_option Elab.async false
set_option linter.all false
set_option maxRecDepth 100000
set_option maxHeartbeats 4000000
/-! Mi42: try: .. except C as n: y = n. -/
namespace Mi
open PySem PySem.Spec L2
open PyProof.Rows (Fr News envOfC AllBare)

section
variable {X : Cx} {pins : List (Addr × Obj)} {σ : L2.St} {H : Hp} {s s' : Shared} {a : Addr}
theorem excHO_own {C dx x y : Addr} : excHO C dx x ≠ .own y := fun z => by unfold excHO at z; cases z
theorem excHO_ok {P : Program} {w : World} {H : Hp} {h : Heap} {C dx a : Addr} {oe : Obj} {vs : Array Value} (e : h.get? a = some oe) (z : Zc (.ref C) (some dx) oe) (d : oe.data = .fields vs) : ObjOk P w H h a (excHO C dx a) :=
  ⟨⟨oe, vs, e, z, d⟩, ⟨oe, e⟩, fun h1 h2 ⟨o, v, q1, q2, q3⟩ k => ⟨o, v, k _ q1, q2, q3⟩⟩
/-- what was not tracked is tracked from now on -/
theorem inv_track {φ : Heap → Prop} (I : Inv X pins σ H s) (h0 : X.s_0.heap.get? a = none) (na : H a = none) (nL : a ≠ X.env.locals) (nc : ∀ x c, X.env.cells.lookup x = some c → c ≠ a) (np : ∀ p ∈ X.pn ++ pins, p.1 ≠ a)
    (ok : ObjOk X.prog X.w (upd H a (.ext φ)) s.heap a (.ext φ)) : Inv X pins σ (upd H a (.ext φ)) s where
  ok := I.ok
  os := I.os
  bare := I.bare
  base := {
    keep := I.base.keep
    slot := I.base.slot
    free := fun b o q n hx => by
      have hb : b ≠ a := fun z => by rw [z, h0] at q; cases q
      rw [upd_ne hb]
      exact I.base.free b o q n hx
    there := I.base.there
    tups := fun b xs q => by
      have := I.base.tups b xs q
      rw [upd_ne (fun z => by rw [z, na] at this; cases this)]
      exact this
    frzs := fun b o u q => by
      have := I.base.frzs b o u q
      rw [upd_ne (fun z => by rw [z, na] at this; cases this)]
      exact this
    tbls := fun b ps q => by
      obtain ⟨more, this⟩ := I.base.tbls b ps q
      exact ⟨more, by rw [upd_ne (fun z => by rw [z, na] at this; cases this)]; exact this⟩ }
  loc := I.loc
  cell := I.cell
  free := by rw [upd_ne nL.symm]; exact I.free
  freeC := fun x c e => by rw [upd_ne (nc x c e)]; exact I.freeC x c e
  pin := fun p hp => by
    obtain ⟨z1, z2, z3⟩ := I.pin p hp
    exact ⟨z1, by rw [upd_ne (np p hp)]; exact z2, z3⟩
  hok := fun b o q => by
    by_cases hb : b = a
    · subst hb
      rw [upd_same] at q
      cases q
      exact ok
    · rw [upd_ne hb] at q
      have neO : ∀ {c : Addr} {y : Addr}, H c = some (.own y) → c ≠ a := fun {c y} hc z => by rw [z, na] at hc; cases hc
      have neT : ∀ {c : Addr} {y : List V}, H c = some (.tup y) → c ≠ a := fun {c y} hc z => by rw [z, na] at hc; cases hc
      refine (I.hok b o q).stay (fun c u _ z => z) (fun c hc => ?_) fun c xs hc => ?_
      · rw [upd_ne (neO hc)]; exact hc
      · rw [upd_ne (neT hc)]; exact hc
  len := I.len

/-- what the clause wishes of an exception of the body: slot i is the clause's name, slot j the one that it is stored in -/
def wM (K : PySem.W.Frag) (c : Value) (i j : Nat) (Wout : WX) (D : Ends) : WX := fun cls d σ H =>
  ∃ b, PySem.W.exmOne K cls c = some b ∧ (b = true → ∃ C dx, cls = .ref C ∧ d = some dx ∧ ∀ a, H a = none → D.nx ((σ.set j (some (.ref a))).set i none) (upd H a (excHO C dx a))) ∧ (b = false → Wout cls d σ H)
end
section
variable {X : Cx} {x n y : Str} {c : Value} {i j : Nat} {body : List Stmt} {np pn2 py sp pos pos' : Pos} {tb : WX → TS} {Wout : WX}
theorem ps_tryM (hex : X.ex = []) (hs : X.stack = X.env :: X.outer) (hf : X.env.frame = some X.env.locals) (hN : X.N.Nodup) (hi : X.N[i]? = some n) (hln : X.env.kindOf n = some .local) (hj : X.N[j]? = some y) (hlj : X.env.kindOf y = some .local) (hij : i ≠ j) (hdn : (n == ("__debug__" : Str)) = false ∧ (n == ("__classdict__" : Str)) = false) (hc : Names X x c) (tk : Takes X Wout)
    (hb : ∀ (W : WX) (pn : List (Addr × Obj)) (xe : Value → Shared → Prop), Takes (X.tr pn xe) W → PassesOwn (model X.prog X.w) X.A X.env xe → PSs (X.tr pn xe) body (tb W)) :
    PS X (.Try body [.ExceptHandler (some (.Name x np)) (some n) [.Assign [.Name y py] (.Name n pn2) sp] pos'] [] [] pos) (fun D σ H => tb (wM X.K c i j Wout D) D σ H) := by
  refine ⟨fun pins s σ H D I h => ?_⟩
  have ok := I.ok
  have hfr : X.A.frames = some (X.env :: X.outer) := by rw [ok.frames, hs]
  have hloc : Loc X.env.scope n := .inl hln
  refine wpAny_Try_except ?_
  refine wpAny_mono ((hb (wM X.K c i j Wout D) (X.pn ++ pins) (fun e s₁ => wpAny (model X.prog X.w) X.A (noteFrame e X.env) (fun _ s₂ => wpAny (model X.prog X.w) X.A (setFlight e none) (fun _ s₃ =>
    wpAny (model X.prog X.w) X.A (handleBy e X.env [.ExceptHandler (some (.Name x np)) (some n) [.Assign [.Name y py] (.Name n pn2) sp] pos']) (SP X pins D) X.xe s₃) X.xe s₂) X.xe s₁) (fun u s' xx => ?_) PassesOwn.looking).run [] s σ H D (I.toTry _) h) (fun f s1 hsp => ?_) (fun e s1 he => he)
  · obtain ⟨a, B, sI, pins', σ', H', cls, d, rfl, J', nb, up, sky, na, os, ag, b, hb1, hyes, hno⟩ := xx
    have J : Inv X pins σ' H' sI := J'.ofTry ok
    have sky' : Sky B (X.env :: X.outer) a (Zc cls d) X.env.locals s'.heap := by rw [← hs]; exact sky
    show wpAny (model X.prog X.w) X.A (noteFrame (.ref a) X.env) _ _ _
    refine Sky.land Zc.steady hfr hf sky' fun h3 fl3 up3 => ?_
    have J3 : Inv X pins σ' H' { s' with heap := h3 } := J.landed nb fl3.1 (up.trans up3) os ag
    obtain ⟨oe3, vs3, he3, hz3, hd3⟩ := fl3.there
    have nfr : a ∉ frs (X.env :: X.outer) := fun hm => by
      obtain ⟨_, o', e', hnf⟩ := fl3.2.2.1.mem hm
      rw [he3] at e'
      cases e'
      exact hnf _ hd3
    have Ba : B.get? a = none := fl3.2.1
    have nL : a ≠ X.env.locals := fun z => nfr (List.mem_filterMap.mpr ⟨X.env, List.mem_cons_self, by rw [hf, z]⟩)
    have nF : a ∉ X.fs := fun hm => by
      obtain ⟨e, he, q⟩ := List.mem_filterMap.mp hm
      exact nfr (List.mem_filterMap.mpr ⟨e, List.mem_cons_of_mem _ he, q⟩)
    -- the exception is newer than all that stood when the def was entered, and than the pins
    have newer : ∀ {b : Addr} {o : Obj}, sI.heap.get? b = some o → b ∉ frs X.stack → b ≠ a := fun {b o} e hb z => by
      have := nb b o e hb
      rw [z, Ba] at this
      cases this
    have h0 : X.s_0.heap.get? a = none := by
      cases q : X.s_0.heap.get? a with
      | none => rfl
      | some o =>
        obtain ⟨o', e'⟩ := J.base.there a o q (by rw [hex]; simp)
        exact absurd rfl (newer e' (by rw [hs]; exact nfr))
    have npin : ∀ p ∈ X.pn ++ pins, p.1 ≠ a := fun p hp => by
      obtain ⟨z1, _, z3, z4, _⟩ := J.pin p hp
      refine newer z1 fun hm => ?_
      rw [hs] at hm
      obtain ⟨e, he, q⟩ := List.mem_filterMap.mp hm
      rcases List.mem_cons.mp he with rfl | he
      · rw [hf] at q
        exact z3 (Option.some.inj q).symm
      · exact z4 (List.mem_filterMap.mpr ⟨e, he, q⟩)
    have S3 := J3.suite he3 hd3 na nL nF
    refine wpAny_handleBy_cons (codeAny_handlers_test ?_) (by intro q; cases q)
    have LT : PySem.W.Looks (model X.prog X.w) h3 (typeOf (.ref a)) cls := fun A Q E s k q => wpAny_typeOf_ref (k _ _ he3) (by rw [hz3.1]; exact q)
    have LM := PySem.W.exm_one (M := model X.prog X.w) (J3.kIn) LT hb1
    have test : ∀ {Q : Value → Shared → Prop} {E : Value → Shared → Prop}, Q c { s' with heap := h3 } → wpAny (model X.prog X.w) (X.A.mark (some (.ref a))) (eval (.Name x np) X.env) Q E { s' with heap := h3 } := fun {Q E} q => by
      obtain ⟨hg, hdbg, hm | ⟨hm, hv, hnn⟩⟩ := hc
      · exact ld_glob (X := X.suite a ((a, oe3) :: (X.pn ++ pins))) S3 hg hm q hdbg
      · exact ld_blt (X := X.suite a ((a, oe3) :: (X.pn ++ pins))) S3 hg hm hv q hnn hdbg
    refine test (LM.here ?_)
    cases b with
    | true =>
      obtain ⟨C, dx, rfl, rfl, hy2⟩ := hyes rfl
      refine codeAny_handlers_suite_as ?_
      refine HandSPX.lands_againZ fl3 fun h4 fl4 up4 => ?_
      have J4 : Inv X pins σ' H' { s' with heap := h4 } := J.landed nb fl4.1 ((up.trans up3).trans up4) os ag
      obtain ⟨oe4, vs4, he4, hz4, hd4⟩ := fl4.there
      have S4 := J4.suite he4 hd4 na nL nF
      refine store_ok (X := X.suite a ((a, oe4) :: (X.pn ++ pins))) (v := .ref a) S4 hN hi hloc rfl (fun s5 S5 => ?_) (.inr hln)
      have hlen : i < σ'.length := by
        rw [J.len]
        exact (List.getElem?_eq_some_iff.mp hi).1
      -- y = n
      refine wpAny_execs_cons (wpAny_Assign_Name ?_ rfl)
      refine wpAny_mono ((pe_var (X := X.suite a ((a, oe4) :: (X.pn ++ pins))) (i := i) (pos := pn2) hi (.inl hln) hdn.1 hdn.2).run [] s5 _ H' (fun v H2 => v = .ref a ∧ H2 = H') S5 ⟨.ref a, List.getElem?_set_self hlen, rfl, rfl⟩) (fun u s6 ⟨v6, H6, S6, r6, hv6, hH6⟩ => ?_) (fun _ _ z => False.elim z)
      subst hv6 hH6
      refine store_ok (X := X.suite a ((a, oe4) :: (X.pn ++ pins))) (v := .ref a) S6 hN hj (.inl hlj) r6 (fun s7 S7 => ?_) (.inr hlj)
      refine wpAny_execs_nil ?_
      have hp7 := (S7.pin (a, oe4) (List.mem_append_left _ (List.mem_cons_self ..))).1
      have J7 : Inv X pins _ H6 s7 := S7.unsuite ok
      have nc : ∀ z c', X.env.cells.lookup z = some c' → c' ≠ a := fun z c' hz' e => by
        obtain ⟨v, hcell⟩ := J7.cell z c' hz'
        obtain ⟨o, q1, q2⟩ := hcell
        rw [e, hp7] at q1
        cases q1
        rw [hd4] at q2
        cases q2
      have T7 := inv_track (φ := fun h => ∃ (oe : Obj) (vs : Array Value), h.get? a = some oe ∧ Zc (.ref C) (some dx) oe ∧ oe.data = .fields vs) J7 h0 na nL nc npin (excHO_ok hp7 hz4 hd4)
      refine gone_ok T7 hN hi hln fun s8 J8 => ⟨_, _, J8, ?_⟩
      rw [show ((σ'.set i (some (.ref a))).set j (some (.ref a))).set i none = (σ'.set j (some (.ref a))).set i none from by rw [List.set_comm _ _ hij, List.set_set]]
      exact hy2 a na
    | false =>
      show wpAny _ X.A (handleBy (.ref a) X.env []) _ _ _
      refine wpAny_handleBy_nil ?_
      obtain ⟨k1, k2, k3, oe, vs, T, oT, ts', he, hz, hd, h1, hr⟩ := id fl3
      unfold PySem.passOn
      refine wpAny_bind (wpAny_field he hd h1 ?_)
      rw [if_neg (show ¬ ((Value.ref T == Value.none) = true) from by simp)]
      have fin : wpAny (model X.prog X.w) X.A (setFlight (.ref a) X.env.frame) (fun _ s4 => wpAny (model X.prog X.w) X.A (throw (.ref a) : Sem Flow) (SP X pins D) X.xe s4) X.xe { s' with heap := h3 } := by
        rw [hf]
        refine HandSPX.setFlight_upZ fl3 fun h4 hh4 up4 => wpAny_throw (tk _ _ ?_)
        exact ⟨a, B, sI, _, σ', H', cls, d, rfl, J, nb, (up.trans up3).trans up4, .inr (.inr (by rw [hs]; exact hh4)), na, os, ag, hno rfl⟩
      first
        | exact wpAny_bind (wpAny_pure (wpAny_bind fin))
        | exact wpAny_bind fin
  · cases f with
    | next =>
      obtain ⟨σ', H', J', q⟩ := hsp
      exact wpAny_execs_nil ⟨σ', H', J'.ofTry ok, q⟩
    | brk =>
      obtain ⟨σ', H', J', q⟩ := hsp
      exact ⟨σ', H', J'.ofTry ok, q⟩
    | cont =>
      obtain ⟨σ', H', J', q⟩ := hsp
      exact ⟨σ', H', J'.ofTry ok, q⟩
    | ret u =>
      obtain ⟨v, σ', H', J', r, q⟩ := hsp
      exact ⟨v, σ', H', J'.ofTry ok, r, q⟩
end
end Mi

set_option Elab.async false
set_option linter.all false
set_option maxRecDepth 100000
set_option maxHeartbeats 4000000
/-! Mi43: raise and try. -/
namespace Mi
open PySem PySem.Spec L2
open PyProof.Rows (Fr News envOfC)

/-- the facts about exceptions -/
structure Fx (B : Tb) : Prop where
  xi : ∀ c, B.T.exn c = true → (∃ f st qual, ExI B.P B.K (B.cA c) f (B.T.fln c) st qual) ∧ B.mg (B.T.cnm c) = some (.ref (B.cA c)) ∧ (B.T.cnm c == ("__debug__" : Str)) = false ∧ (B.T.fln c).length ≤ 800
  xm : ∀ c d, B.T.exn c = true → B.T.exn d = true → PySem.W.exmOne B.K (.ref (B.cA c)) (.ref (B.cA d)) = some (B.T.sub c d)
  top : (B.P.main.scope.names.lookup ("super" : Str)).isSome = false
section
variable {B : Tb} {X : Cx} {Wx : WX} {n : Nat} {sc : Sc} {pos p p' : Pos} {xs : List Expr} {es : Es}
theorem s_raise {c : Nat} {x : Str} (D : Gd B sc X Wx n) (fx : Fx B) (hx : B.T.exn c = true) (hn : B.T.cnm c = x) (hg : glB sc.scope x = true) (ha : PAm B X Wx n xs es) (hs : xs.all ns = true) (hne : xs ≠ []) :
    PSm B X Wx n (.Raise (some (.Call (.Name x p) xs [] p')) none pos) (.raise c es) := by
  subst hn
  obtain ⟨⟨f, st, qual, T⟩, hm, hdb, hz⟩ := fx.xi c hx
  rw [← D.prog, ← D.K] at T
  have hsu : X.mg "super" = none := by rw [D.mg]; exact D.fc.nog _ (by decide +kernel)
  refine PS.mono (ps_raise D.calm D.tk (pmk_M T (glB_ok (by rw [D.sco]; exact hg)) (by rw [D.mg]; exact hm) hsu (by rw [D.prog]; exact fx.top) (D.room.mono (by omega)) ha hs hne hz hdb)) fun D' σ H h => ?_
  obtain ⟨g0, H0, gb, g, env, m, ev, M, R, h⟩ := h
  simp only [evS, hx, if_true] at h
  refine ⟨g, env, m, H0, M, R, toS_ok (rel := relWs B) ev R h fun ws m1 g1 vs H1 e1 e2 M1 R1 r h1 => ?_⟩
  split at h1
  · rename_i hl
    refine ⟨by rw [← r.length]; exact hl, fun d hd => ?_⟩
    have e3 : Ev g1 H1 g1 (upd H1 d (.xd ((B.T.fln c).zip vs))) := Ev.new hd
    refine h1 g1 σ _ _ _ (e1.trans e3) (M1.new hd) (R1.ev e3) ⟨rfl, d, vs, rfl, upd_same, M1.gno hd, M1.rno hd, ev.trans e2 |>.none hd, Nat.le_of_eq hl, r⟩
  · exact h1.elim

/-- a caught exception is frozen: a its object, dx its own dict -/
theorem catch_ok {g0 gb g : Gh} {H0 H : Hp} {m : Mem} {env : En} {σ : L2.St} {d i j : Nat} {ws : List W} {vs : List V} {a dx : Addr} (ev : Ev2 g0 H0 gb g H) (M : MR B g m H) (R : ER B g env σ H H0)
    (hd : H dx = some (.xd ((B.T.fln d).zip vs))) (h1 : g.G dx = none) (h2 : dx ∉ g.ρ) (h3 : H0 dx = none) (hl : ws.length ≤ (B.T.fln d).length) (hv : VRs B g.G g.ρ ws vs) (ha : H a = none) (hij : i ≠ j) :
    ∃ g', Ev2 g0 H0 gb g' (upd H a (excHO (B.cA d) dx a)) ∧ MR B g' m (upd H a (excHO (B.cA d) dx a)) ∧ ER B g' ((env.set j (.val (.exc d ws))).set i .no) ((σ.set j (some (.ref a))).set i none) (upd H a (excHO (B.cA d) dx a)) H0 := by
  have hda : dx ≠ a := fun z => by rw [z, ha] at hd; cases hd
  have ga : g.G a = none := M.gno ha
  have ra : a ∉ g.ρ := M.rno ha
  let g1 : Gh := ⟨upd (upd g.G dx (.xd ((B.T.fln d).zip vs))) a (excHO (B.cA d) dx a), g.ρ⟩
  have old : ∀ b o, g.G b = some o → g1.G b = some o := fun b o q => by
    show upd (upd g.G dx _) a _ b = _
    rw [upd_ne (fun z => by rw [z, ga] at q; cases q), upd_ne (fun z => by rw [z, h1] at q; cases q)]
    exact q
  have new : ∀ b o, g1.G b = some o → g.G b = some o ∨ b = dx ∨ b = a := fun b o q => by
    have q' : upd (upd g.G dx (.xd ((B.T.fln d).zip vs))) a (excHO (B.cA d) dx a) b = some o := q
    by_cases z : b = a
    · exact .inr (.inr z)
    · rw [upd_ne z] at q'
      by_cases z2 : b = dx
      · exact .inr (.inl z2)
      · rw [upd_ne z2] at q'
        exact .inl q'
  have ups : ∀ b o, H b = some o → upd H a (excHO (B.cA d) dx a) b = some o := fun b o q => by
    rw [upd_ne (fun z => by rw [z, ha] at q; cases q)]
    exact q
  have gs : Gs g.G g1.G := Gs.of old
  have E1 : Ev g0 H0 g1 (upd H a (excHO (B.cA d) dx a)) := ⟨ev.e.gk.trans gs, ev.e.rk, fun b o q => by
      rcases new b o q with z | rfl | rfl
      · exact ev.e.gn b o z
      · exact .inr h3
      · exact .inr (ev.none ha), ev.e.rn, fun b o q nb => by
      rcases ev.e.fr b o q nb with z | ⟨⟨kvs, q0, y1, y2⟩, u, z⟩
      · exact .inl (ups b o z)
      · exact .inr ⟨⟨kvs, q0, y1, ups _ _ y2⟩, u, old _ _ z⟩, fun b o q => by
      obtain ⟨o', z⟩ := ev.e.dom b o q
      exact ⟨o', ups _ _ z⟩⟩
  have K1 : Gk gb g1 := ⟨ev.k.gk.trans gs, ev.k.rk⟩
  have r0 : ∃ t, g1.ρ = g.ρ ++ t := ⟨[], by simp [g1]⟩
  have M1 : MR B g1 m (upd H a (excHO (B.cA d) dx a)) := ⟨fun b o q => by
      rcases new b o q with z | rfl | rfl
      · exact ups _ _ (M.sub b o z)
      · have q' : upd (upd g.G b (.xd ((B.T.fln d).zip vs))) a (excHO (B.cA d) b a) b = some o := q
        rw [upd_ne hda, upd_same] at q'
        cases q'
        exact ups _ _ hd
      · have q' : upd (upd g.G dx (.xd ((B.T.fln d).zip vs))) b (excHO (B.cA d) dx b) b = some o := q
        rw [upd_same] at q' ⊢
        exact q', M.len, fun k ob b e1 e2 => by
      obtain ⟨k1, k2⟩ := M.cel k ob b e1 e2
      have nb : b ≠ dx := fun z => h2 (z ▸ List.mem_of_getElem? e2)
      have nb2 : b ≠ a := fun z => ra (z ▸ List.mem_of_getElem? e2)
      refine ⟨OR.up gs r0 (fun o q => ups _ _ q) k1, ?_⟩
      show upd (upd g.G dx _) a _ b = none
      rw [upd_ne nb2, upd_ne nb]
      exact k2, M.nd⟩
  refine ⟨g1, ⟨E1, K1⟩, M1, ?_⟩
  have len := R.len
  have vx : VR B g1.G g1.ρ (.exc d ws) (.ref a) := by
    simp only [VR]
    refine ⟨a, dx, vs, rfl, upd_same, ?_, hl, VRs.up gs r0 _ _ hv⟩
    show upd (upd g.G dx _) a _ dx = _
    rw [upd_ne hda, upd_same]
  have at_ : ∀ k sl, ((env.set j (.val (.exc d ws))).set i .no)[k]? = some sl → (k = i ∧ sl = .no) ∨ (k ≠ i ∧ k = j ∧ sl = .val (.exc d ws) ∧ k < env.length) ∨ (k ≠ i ∧ k ≠ j ∧ env[k]? = some sl) := fun k sl q => by
    rw [List.getElem?_set] at q
    by_cases z : i = k
    · rw [if_pos z] at q
      split at q <;> cases q
      exact .inl ⟨z.symm, rfl⟩
    · rw [if_neg z, List.getElem?_set] at q
      by_cases z2 : j = k
      · rw [if_pos z2] at q
        split at q <;> cases q
        rename_i hlt
        exact .inr (.inl ⟨fun y => z y.symm, z2.symm, rfl, z2 ▸ hlt⟩)
      · rw [if_neg z2] at q
        exact .inr (.inr ⟨fun y => z y.symm, fun y => z2 y.symm, q⟩)
  have sg : ∀ k, k ≠ i → k ≠ j → ((σ.set j (some (.ref a))).set i none)[k]? = σ[k]? := fun k z z2 => by
    rw [List.getElem?_set, if_neg (fun y => z y.symm), List.getElem?_set, if_neg (fun y => z2 y.symm)]
  refine ⟨by simp [len], fun k w q => ?_, fun k ob q => ?_, fun k l ok ol b q1 q2 q3 q4 => ?_, fun k c fs b q1 q2 => ?_⟩
  · rcases at_ k _ q with ⟨_, z⟩ | ⟨z1, z2, z3, z4⟩ | ⟨z1, z2, z3⟩
    · cases z
    · cases z3
      refine ⟨.ref a, ?_, vx⟩
      rw [List.getElem?_set, if_neg (fun y => z1 y.symm), List.getElem?_set, if_pos z2.symm, if_pos (by rw [← len, ← z2]; exact z4)]
    · obtain ⟨v, e1, e2⟩ := R.val k w z3
      exact ⟨v, by rw [sg k z1 z2]; exact e1, VR.up gs r0 _ _ e2⟩
  · rcases at_ k _ q with ⟨_, z⟩ | ⟨z1, z2, z3, z4⟩ | ⟨z1, z2, z3⟩
    · cases z
    · cases z3
    · obtain ⟨b, e1, e2, e3, e4, e5⟩ := R.own k ob z3
      obtain ⟨o, ho⟩ := e4.there
      refine ⟨b, by rw [sg k z1 z2]; exact e1, ?_, e3, OR.up gs r0 (fun o q => ups _ _ q) e4, e5⟩
      cases y : g1.G b with
      | none => rfl
      | some o' =>
        rcases new b o' y with x | rfl | rfl
        · rw [e2] at x; cases x
        · -- dx holds an own dict, no list, dict or instance
          exfalso
          cases ob with
          | lst xs => obtain ⟨_, e, _⟩ := e4; rw [hd] at e; cases e
          | dct n ks us => obtain ⟨_, _, e, _⟩ := e4; rw [hd] at e; cases e
          | ins c fs => obtain ⟨_, _, e, _⟩ := e4; rw [hd] at e; cases e
        · rw [ha] at ho; cases ho
  · rcases at_ k _ q1 with ⟨_, z⟩ | ⟨z1, z2, z3, z4⟩ | ⟨z1, z2, z3⟩
    · cases z
    · cases z3
    · rcases at_ l _ q2 with ⟨_, z⟩ | ⟨y1, y2, y3, y4⟩ | ⟨y1, y2, y3⟩
      · cases z
      · cases y3
      · rw [sg k z1 z2] at q3
        rw [sg l y1 y2] at q4
        exact R.ond k l ok ol b z3 y3 q3 q4
  · rcases at_ k _ q1 with ⟨_, z⟩ | ⟨z1, z2, z3, z4⟩ | ⟨z1, z2, z3⟩
    · cases z
    · cases z3
    · rw [sg k z1 z2] at q2
      exact R.slf k c fs b z3 q2

/-- what try asks of a def's context -/
structure Tx (X : Cx) : Prop where
  ex : X.ex = []
  st : X.stack = X.env :: X.outer
  fr : X.env.frame = some X.env.locals
theorem s_try {c i j : Nat} {x nm y : Str} {np pn2 py sp pos' : Pos} {body : List Stmt} {b : Ss} (D : Gd B sc X Wx n) (fx : Fx B) (tx : Tx X) (hx : B.T.exn c = true) (hn : B.T.cnm c = x) (hg : glB sc.scope x = true)
    (hi : sc.N[i]? = some nm) (hln : sc.scope.names.lookup nm = some .local) (hj : sc.N[j]? = some y) (hlj : sc.scope.names.lookup y = some .local) (hij : i ≠ j)
    (hdn : (nm == ("__debug__" : Str)) = false ∧ (nm == ("__classdict__" : Str)) = false) (hk1 : X.env.kindOf nm = some .local) (hk2 : X.env.kindOf y = some .local)
    (hb : ∀ (W : WX) (pn : List (Addr × Obj)) (xe : Value → Shared → Prop), Takes (X.tr pn xe) W → PassesOwn (model X.prog X.w) X.A X.env xe → PSs (X.tr pn xe) body (tSs B (cfN B.T n) W b)) :
    PSm B X Wx n (.Try body [.ExceptHandler (some (.Name x np)) (some nm) [.Assign [.Name y py] (.Name nm pn2) sp] pos'] [] [] pos) (.try c i b (.cons (.set j false (.var i)) .nil)) := by
  subst hn
  obtain ⟨_, hm, hdb, _⟩ := fx.xi c hx
  have hN : X.N = sc.N := D.N
  refine PS.mono (ps_tryM (c := .ref (B.cA c)) (i := i) (j := j) (Wout := Wx) tx.ex tx.st tx.fr D.nd (by rw [hN]; exact hi) hk1 (by rw [hN]; exact hj) hk2 hij hdn
    ⟨glB_ok (by rw [D.sco]; exact hg), hdb, .inl (by rw [D.mg]; exact hm)⟩ D.tk hb) fun D' σ H h => ?_
  obtain ⟨g0, H0, gb, g, env, m, ev, M, R, h⟩ := h
  refine ⟨g0, H0, gb, g, env, m, ev, M, R, ?_⟩
  simp only [evS, hx, if_true] at h
  cases q : evSs B.T (cfN B.T n) b env m with
  | next env' m' => rw [q] at h; exact h
  | brk env' m' => rw [q] at h; exact h
  | cont env' m' => rw [q] at h; exact h
  | ret rv m' => rw [q] at h; exact h
  | stuck => rw [q] at h; exact h
  | exc w env' m' =>
    rw [q] at h
    cases w with
    | exc d ws =>
      dsimp only at h
      split at h
      case isFalse => exact h.elim
      rename_i hxx
      intro g' σ' H' cls dd e1 M1 R1 xr
      obtain ⟨rfl, dx, vs, rfl, r1, r2, r3, r4, r5, r6⟩ := xr
      refine ⟨B.T.sub d c, by rw [D.K]; exact fx.xm d c hxx hx, fun hs => ?_, fun hs => ?_⟩
      · rw [if_pos hs] at h
        simp only [catchJ, if_true] at h
        rw [if_pos hij] at h
        refine ⟨B.cA d, dx, rfl, rfl, fun a ha => ?_⟩
        obtain ⟨g2, k1, k2, k3⟩ := catch_ok (i := i) (j := j) e1 M1 R1 r1 r2 r3 r4 r5 r6 ha hij
        exact h g2 _ _ k1 k2 k3
      · rw [if_neg (by rw [hs]; decide)] at h
        exact h g' σ' H' _ _ e1 M1 R1 ⟨rfl, dx, vs, rfl, r1, r2, r3, r4, r5, r6⟩
    | _ => exact h.elim
end
end Mi

set_option Elab.async false
set_option linter.all false
set_option maxRecDepth 100000
set_option maxHeartbeats 4000000
/-! MiS: len(set(xs)), xs a list or a tuple of ints and texts. -/
namespace Mi
open PySem PySem.Spec L2
open PyProof.Rows (Fr News envOfC)
theorem key_scanV {k : Key} {v : Value} (h : keyIs k v = true) : v.scannable = true := by
  rcases keyIs_shape h with ⟨i, t, rfl, rfl⟩ | ⟨x, t, rfl, rfl⟩ <;> rfl
def stepK (σ : List Key) (v : Key) : List Key := if σ.any (fun u => decide (u = v)) then σ else σ ++ [v]
def fstK (val : Nat → Key) (i : Nat) : List Key := ((List.range i).map val).foldl stepK []
theorem fstK_zero (val : Nat → Key) : fstK val 0 = [] := rfl
theorem fstK_succ (val : Nat → Key) (i : Nat) : fstK val (i + 1) = stepK (fstK val i) (val i) := by
  unfold fstK; rw [List.range_succ, List.map_append, List.foldl_append]; rfl
theorem fstK_length_le (val : Nat → Key) : ∀ i, (fstK val i).length ≤ i
  | 0 => by rw [fstK_zero]; exact Nat.le_refl _
  | i + 1 => by
    rw [fstK_succ]; unfold stepK
    have ih := fstK_length_le val i
    split
    · omega
    · rw [List.length_append, List.length_singleton]; omega
theorem stepK_any (σ : List Key) (v k : Key) : (stepK σ v).any (fun u => decide (u = k)) = (σ.any (fun u => decide (u = k)) || decide (k = v)) := by
  unfold stepK
  by_cases h : σ.any (fun u => decide (u = v)) = true
  · rw [if_pos h]
    by_cases e : k = v
    · subst e; rw [h]; simp
    · simp [e]
  · rw [if_neg h, List.any_append]
    by_cases e : k = v
    · subst e; simp
    · have hb : decide (v = k) = false := by simpa using (fun h' : v = k => e h'.symm)
      simp [hb, e]
theorem stepK_length (σ : List Key) (v : Key) : (stepK σ v).length = if σ.any (fun u => decide (u = v)) then σ.length else σ.length + 1 := by
  unfold stepK; split <;> simp
theorem setOfK_congr {prog : Program} {w : World} {h : Heap} {a : Addr} {S S' : Key → Bool} {n n' : Nat} (hS : h.SetOf (mixKind prog w) a S n) (e : ∀ k, S k = S' k) (en : n = n') : h.SetOf (mixKind prog w) a S' n' := by
  have : S = S' := funext e
  subst this; subst en; exact hS
section
variable {prog : Program} {w : World} {A : Around} {R : Result → Shared → Prop} {I : Addr} {fp wr : List Addr} {G : Array GenState → Array GenState → Prop} {n : Nat} {P : Nat → Value → Prop} {St : Nat → Shared → Prop}
theorem set_loopK (W : WalksS prog w A.in1 I fp wr G n P St) (S : Addr) (hSf : S ∉ fp)
    (val : Nat → Key) (hval : ∀ i v, P i v → keyIs (val i) v = true) (hb : n + 1 < scanBound) :
    ∀ (k i : Nat) (s : Shared), n - i = k → i ≤ n → St i s →
      s.heap.SetOf (mixKind prog w) S (fun k' => (fstK val i).any (fun u => decide (u = k'))) (fstK val i).length →
      (∀ s', Moved (S :: wr) G s s' → s'.heap.SetOf (mixKind prog w) S (fun k' => (fstK val n).any (fun u => decide (u = k'))) (fstK val n).length → R (.ok (.ret .none)) s') →
      codeAny (model prog w) A (.builtin "set.update.loop" ⟨[.ref S, .ref I], []⟩) R s := by
  have hSw : S ∉ wr := fun h => hSf (W.sub _ h)
  have hsub : ∀ b ∈ wr, b ∈ S :: wr := fun b hb => List.mem_cons_of_mem _ hb
  intro k
  induction k with
  | zero =>
    intro i s hk hi hst hS hR
    have hin : i = n := by omega
    subst hin
    refine codeAny_builtin PyProof.Rows.F.entry_set_update_loop ?_
    rw [Around.under_plainId PyProof.Rows.F.plain_set_update_loop _]
    show wpAny _ A.in1 (pyNext (.ref I) >>= _) _ _ s
    refine wpAny_bind (W.done s _ _ hst fun s' hm => ?_)
    show wpAny _ A.in1 (ret Value.none) _ _ s'
    exact wpAny_pure (hR s' (hm.mono hsub) (by
      obtain ⟨o, es, ep, t, ho, rest⟩ := hS
      exact ⟨o, es, ep, t, hm.heap S _ hSw ho, rest⟩))
  | succ k ih =>
    intro i s hk hi hst hS hR
    have hlt : i < n := by omega
    refine codeAny_builtin PyProof.Rows.F.entry_set_update_loop ?_
    rw [Around.under_plainId PyProof.Rows.F.plain_set_update_loop _]
    show wpAny _ A.in1 (pyNext (.ref I) >>= _) _ _ s
    refine wpAny_bind (W.item i s _ _ hlt hst fun v s' hP hst' hm => ?_)
    have hk := hval i v hP
    have hS' : s'.heap.SetOf (mixKind prog w) S (fun k' => (fstK val i).any (fun u => decide (u = k'))) (fstK val i).length := by
      obtain ⟨o, es, ep, tb, ho, rest⟩ := hS
      exact ⟨o, es, ep, tb, hm.heap S _ hSw ho, rest⟩
    show wpAny _ A.in1 (holding [v] (setAdd S v) >>= _) _ _ s'
    refine wpAny_bind (wpAny_holding ?_)
    unfold setAdd
    refine wpAny_holding ?_
    refine wpAny_bind ((mixKind prog w).pyHash (k := val i) hk ?_)
    have hroom : (fstK val i).length + 1 < scanBound := by have := fstK_length_le val i; omega
    refine wpAny_setAddHashed_of (knd := mixKind prog w) (s := { s' with toks := s'.toks + 1 }) hk (key_scanV hk) hS' hroom fun h' hsb hS2 => ?_

    have hSi : h'.SetOf (mixKind prog w) S (fun k' => (fstK val (i + 1)).any (fun u => decide (u = k'))) (fstK val (i + 1)).length :=
      setOfK_congr hS2 (fun k' => by rw [fstK_succ, stepK_any]) (by rw [fstK_succ, stepK_length])
    refine wpAny_pure ⟨plainId_quiet PyProof.Rows.F.plain_set_update_loop _, ih (i + 1) _ (by omega) hlt (W.frame _ s' _ _ hst' (Nat.le_succ _) fun b hb o e => ?_) hSi fun s'' hm'' hS'' => ?_⟩
    · rw [hsb.2 b (fun h : b = S => hSf (by rw [← h]; exact hb))]; exact e
    · refine hR s'' (Moved.trans W.gtrans ((hm.mono hsub).then_heap (Nat.le_succ _) fun b o hb e => ?_) hm'') hS''
      rw [hsb.2 b (fun h : b = S => hb (by rw [h]; exact List.mem_cons_self))]; exact e
end
theorem sub_tuple_set : isSubtype (.type "tuple") (.type "set") = pure false := by rw [isSubtype_type]; kernel_rfl
theorem sub_tuple_frozenset : isSubtype (.type "tuple") (.type "frozenset") = pure false := by rw [isSubtype_type]; kernel_rfl
section
variable {prog : Program} {w : World} {A : Around} {E : Value → Shared → Prop} {s : Shared}
theorem freshK (prog : Program) (w : World) {h : Heap} {a : Addr} {led : Bool} (ho : h.get? a = some { cls := .type "set", dict := none, data := .set #[] 0 (.fresh 0 0 led) }) : h.SetOf (mixKind prog w) a (fun _ => false) 0 :=
  ⟨_, #[], 0, _, ho, ⟨rfl, rfl, rfl⟩, rfl, fun e he => by simp at he, fun k => by simp, by decide, by rfl, rfl⟩
theorem call_setK_list {l : Addr} {items : Array Value} {ks : List Key} {Q : Value → Shared → Prop}
    (hh : A.handled = none) (hl : s.heap.IsList l items) (hi : ∀ (i : Nat) (v : Value), items[i]? = some v → keyIs (ks.getD i (.inl 0)) v = true) (hb : items.size + 1 < scanBound)
    (h : ∀ (h' : Heap) (tk : Nat), h'.SetOf (mixKind prog w) s.heap.objs.size (fun k' => (fstK (fun i => ks.getD i (.inl 0)) items.size).any (fun u => decide (u = k'))) (fstK (fun i => ks.getD i (.inl 0)) items.size).length →
      (∀ b o, b < s.heap.objs.size → s.heap.get? b = some o → h'.get? b = some o) → Q (.ref s.heap.objs.size) { s with heap := h', toks := tk }) :
    wpAny (model prog w) A (call (.type "set") [.ref l]) Q E s := by
  obtain ⟨c, tl, hmro⟩ := PySem.F.called_set.mro
  have hmade := PySem.F.called_set.made
  have hsub := PySem.F.called_set.sub
  refine wpAny_call (codeAny_of_tree ?_)
  show wpAny _ _ (callAny (.type "set") _) _ _ _
  refine wpAny_pure ⟨Code.quiet_builtin _ (by decide +kernel), codeAny_builtin PySem.F.entry_type_call ?_⟩
  rw [Around.under_plain (weight_type_call_type "set" [.ref l] []) rfl]
  have h1 := PySem.F.called_set.notType
  have h2 := PySem.F.called_set.canCreate
  have hct := PySem.F.typeCall_set_1 (.ref l)
  repeat (any_goals (first | assumption | wp_step))

  refine codeAny_mono (code_set_new_1 (.ref l) (E := E) (Q₁ := fun obj s₁ => ∃ led : Bool, obj = .ref s.heap.objs.size ∧ s₁ = { s with heap := s.heap.push { cls := .type "set", dict := none, data := .set #[] 0 (.fresh 0 0 led) } }) fun led => ⟨led, rfl, rfl⟩) fun r s₁ hr => ?_
  cases r with
  | error e => exact hr
  | ok fl =>
    cases fl with
    | ret obj =>
      obtain ⟨led, rfl, rfl⟩ := hr
      have hS : (s.heap.push { cls := .type "set", dict := none, data := .set #[] 0 (.fresh 0 0 led) }).get? s.heap.objs.size = some { cls := .type "set", dict := none, data := .set #[] 0 (.fresh 0 0 led) } := Heap.get?_push_size _ rfl
      have hT : Shared.TypeIs { s with heap := s.heap.push { cls := .type "set", dict := none, data := .set #[] 0 (.fresh 0 0 led) } } (.ref s.heap.objs.size) "set" := ⟨_, hS, rfl⟩
      have hli := PySem.F.called_set.init.lookup
      have hbi := PySem.F.called_set.init.bind (.ref s.heap.objs.size)
      repeat (any_goals (first | assumption | wp_step))

      refine codeAny_mono (codeAny_call_builtin (R := wants (fun r s₂ => r = .none ∧ ∃ h' tk, s₂ = { s with heap := h', toks := tk } ∧
          h'.SetOf (mixKind prog w) s.heap.objs.size (fun k' => (fstK (fun i => ks.getD i (.inl 0)) items.size).any (fun u => decide (u = k'))) (fstK (fun i => ks.getD i (.inl 0)) items.size).length ∧
          (∀ b o, b < s.heap.objs.size → s.heap.get? b = some o → h'.get? b = some o)) E) PySem.F.called_set.init.plain PySem.F.entry_set_init (check_set_init_1 hT ?_)) fun r₂ s₂ hr₂ => ?_
      · obtain ⟨ol, hol, hcl, nl, hdl⟩ := hl
        obtain ⟨ocls, odict, odata, oslots⟩ := ol
        simp only at hcl hdl
        subst hcl; subst hdl
        have hol' : (s.heap.push { cls := .type "set", dict := none, data := .set #[] 0 (.fresh 0 0 led) }).get? l = some { cls := .type "list", dict := odict, data := .seq items nl, slots := oslots } := Heap.get?_push_of_some _ hol
        have hsls := PySem.F.sub_list_set
        have hslf := PySem.F.sub_list_frozenset
        have hne : (Value.type "list" == Value.type "dict") = false := by decide
        have hl1 : (s.heap.push { cls := .type "set", dict := none, data := .set #[] 0 (.fresh 0 0 led) }).IsList l items := ⟨_, hol', rfl, nl, rfl⟩
        unfold Builtin.«set.__init__» noKeywords Builtin.Frozenset.updateFrom
        generalize hPI : pyIter = PI
        wp_walk
        subst hPI

        refine wpAny_pyIter_list hl1 ?_
        refine wpAny_bind (wpAny_runValue ?_)
        have hlS : l < s.heap.objs.size := Heap.lt_size hol
        have hh3 : A.in1.in1.in1.handled = none := by simp [hh]
        have hneI : l ≠ (s.heap.push { cls := .type "set", dict := none, data := .set #[] 0 (.fresh 0 0 led) }).objs.size := by
          rw [Heap.size_push]; exact Nat.ne_of_lt (Nat.lt_succ_of_lt hlS)
        have hSf : s.heap.objs.size ∉ [(s.heap.push { cls := .type "set", dict := none, data := .set #[] 0 (.fresh 0 0 led) }).objs.size, l] := by
          rw [Heap.size_push]; simp only [List.mem_cons, List.mem_singleton, List.not_mem_nil, or_false, not_or]
          exact ⟨Nat.ne_of_lt (Nat.lt_succ_self _), Nat.ne_of_gt hlS⟩
        refine set_loopK ((Walks.list hh3 _ l hneI items).toS) s.heap.objs.size
          hSf (fun i => ks.getD i (.inl 0)) hi hb (items.size - 0) 0 _ (by omega) (Nat.zero_le _)
          ⟨⟨_, Heap.get?_push_size _ rfl, rfl, rfl⟩, (hl1.push _)⟩ ?hS0 ?hR
        case hS0 =>
          have hget : ((s.heap.push { cls := .type "set", dict := none, data := .set #[] 0 (.fresh 0 0 led) }).push { cls := .type "list_iterator", data := .fields #[.ref l, .int 0 0] }).get? s.heap.objs.size
              = some { cls := .type "set", dict := none, data := .set #[] 0 (.fresh 0 0 led) } := Heap.get?_push_of_some _ hS
          exact setOfK_congr (freshK prog w hget) (fun _ => rfl) rfl
        case hR =>
          intro s' hm hS'
          obtain ⟨h', g', d', tk', os'⟩ := s'
          have eg : g' = s.gens := hm.gens
          have ed : d' = s.drawn := hm.drawn
          have eo : os' = s.os := hm.os
          subst eg; subst ed; subst eo
          show wpAny _ _ _ _ _ _
          refine wpAny_pure ?_
          show wpAny _ _ (ret Value.none) _ _ _
          refine wpAny_pure ⟨rfl, h', tk', rfl, hS', fun b o hb e => ?_⟩
          have hb1 : b ≠ s.heap.objs.size := Nat.ne_of_lt hb
          have hb2 : b ≠ (s.heap.push { cls := .type "set", dict := none, data := .set #[] 0 (.fresh 0 0 led) }).objs.size := by
            rw [Heap.size_push]; exact Nat.ne_of_lt (Nat.lt_succ_of_lt hb)
          exact hm.heap b o (by simp only [List.mem_cons, List.mem_singleton, List.not_mem_nil, or_false, not_or]; exact ⟨hb1, hb2⟩) (Heap.get?_push_of_some _ (Heap.get?_push_of_some _ e))

      · cases r₂ with
        | error e => exact hr₂
        | ok fl₂ =>
          cases fl₂ with
          | ret r =>
            obtain ⟨rfl, h', tk, rfl, hS', hk'⟩ := hr₂
            repeat (any_goals (first | assumption | wp_step))
            exact h _ _ hS' hk'
          | _ => exact hr₂.elim
    | _ => exact hr.elim
end
end Mi

set_option Elab.async false
set_option linter.all false
set_option maxRecDepth 100000
set_option maxHeartbeats 4000000
/-! MiL: len(set(xs)). -/
namespace Mi
open PySem PySem.Spec L2
open PyProof.Rows (Fr News envOfC)
theorem relV_keyIs {k : Key} {u : Value} (h : RelV (kV k) u) : keyIs k u = true := by
  cases k with
  | inl i => obtain ⟨t, rfl⟩ := (show ∃ t, u = Value.int i t from h); exact keyIs_int i t
  | inr x => obtain ⟨t, rfl⟩ := (show ∃ t, u = Value.str x t from h); exact keyIs_str x t
theorem vals_keys : ∀ {ks : List Key} {us : List Value}, Vals (ks.map kV) us → ∀ (i : Nat) (v : Value), us[i]? = some v → keyIs (ks.getD i (.inl 0)) v = true
  | [], _, .nil, i, v, h => by simp at h
  | k :: ks, _, .cons r t, 0, v, h => by
    simp at h
    subst h
    exact relV_keyIs r
  | k :: ks, _, .cons r t, i + 1, v, h => by
    simp only [List.getElem?_cons_succ] at h
    have := vals_keys t i v h
    simpa using this
theorem range_getD : ∀ (ks : List Key), (List.range ks.length).map (fun i => ks.getD i (.inl 0)) = ks := fun ks => by
  apply List.ext_getElem?
  intro i
  rw [List.getElem?_map]
  by_cases h : i < ks.length
  · rw [List.getElem?_range h]
    simp [List.getElem?_eq_getElem h]
  · rw [List.getElem?_eq_none (by simpa using h), List.getElem?_eq_none (by simpa using h)]
    rfl
theorem step_map (σ : List Key) (k : Key) : stepW (σ.map kW) (kW k) = (stepK σ k).map kW := by
  unfold stepW stepK
  have e : (σ.map kW).any (fun u => decide (u = kW k)) = σ.any (fun u => decide (u = k)) := by
    rw [List.any_map]
    congr 1
    funext u
    by_cases h : u = k
    · subst h; simp
    · have : kW u ≠ kW k := fun z => h (kW_inj z)
      simp [h, this]
  rw [e]
  split <;> simp
theorem fold_map : ∀ (ks σ : List Key), (ks.map kW).foldl stepW (σ.map kW) = (ks.foldl stepK σ).map kW
  | [], σ => rfl
  | k :: ks, σ => by
    rw [List.map_cons, List.foldl_cons, List.foldl_cons, step_map]
    exact fold_map ks _
theorem fst_len (ks : List Key) : (fstK (fun i => ks.getD i (.inl 0)) ks.length).length = (dedupW (ks.map kW)).length := by
  unfold fstK dedupW
  rw [range_getD]
  have := fold_map ks []
  rw [List.map_nil] at this
  rw [this, List.length_map]
section
variable {X : Cx}
def tLenSetK (K : PySem.W.Frag) (ta : TE) : TE := fun σ H Q => ta σ H fun x H1 => ∃ (l : Addr) (ks : List Key), x = V.ref l ∧ SqL K H1 l (ks.map kV) ∧ ks.length + 1 < 4096 ∧ Q (.int (dedupW (ks.map kW)).length) H1
theorem pe_lenSetK {a : Expr} {ta : TE} {p p2 q pos : Pos} (hc : X.calm = true) (hg : Gl X "len") (hm : X.mg "len" = none) (hg2 : Gl X "set") (hm2 : X.mg "set" = none) (ha : PE X a ta)
    (hn : ns a = true) : PE X (.Call (.Name "len" p) [.Call (.Name "set" p2) [a] [] q] [] pos) (tLenSetK X.K ta) := by
  refine ⟨fun pins s σ H Q I h => ?_⟩
  have na : starEach [a] X.env = (false, eval a X.env) :: starEach [] X.env := star_cons hn
  refine PyProof.Rows.Call_ (ld_blt I hg hm PySem.boot_len ?_)
  refine PyProof.Rows.callWith_builtin1 (PyProof.Rows.args_cons ?_ rfl) rfl rfl
  refine PyProof.Rows.Call_ (ld_blt I hg2 hm2 PyProof.Rows.boot_set ?_)
  refine PyProof.Rows.callWith_type1 (PyProof.Rows.args_cons (thn (ha.run pins s σ H _ I h) fun v s1 ⟨x, H1, I1, r1, q1⟩ => PyProof.Rows.args_nil ?_) na) na rfl
  obtain ⟨l, ks, rfl, hq, h1, q1⟩ := q1
  cases r1
  obtain ⟨its, r, pl, hz⟩ := I1.list hq
  have hl : its.toArray.size = ks.length := by rw [List.size_toArray, ← r.length, List.length_map]
  refine call_setK_list (I1.ok.hd hc) pl.isList (ks := ks) (fun i v hi => vals_keys r i v (by simpa using hi)) (by unfold scanBound; omega) fun h' tk hS hk => ?_
  rw [hl, fst_len] at hS
  refine PyProof.Rows.args_nil ?_
  obtain ⟨o, es, ep, t, ho, hex, hd, _, _, _, hf, hn⟩ := hS
  have I2 : Inv X pins σ H1 { s1 with heap := h', toks := tk } := I1.kept fun b o e => hk b o (Heap.lt_size e) e
  have hle : (dedupW (ks.map kW)).length ≤ ks.length := by
    rw [← fst_len]
    exact fstK_length_le _ _
  refine call_len_set ho hex hd hf (by rw [hn] <;> omega) ⟨.int (dedupW (ks.map kW)).length, H1, I2.tok _, ⟨_, by rw [hn]⟩, q1⟩
end
section
variable {B : Tb} {X : Cx} {Wx : WX} {n : Nat} {sc : Sc} {pos p p2 q : Pos} {ea : Expr} {a : E}
theorem keysVs {g : Gh} : ∀ {xs : List W} {vs : List V}, xs.all (isKey false) = true → VRs B g.G g.ρ xs vs → ∃ ks : List Key, xs = ks.map kW ∧ vs = ks.map kV
  | [], vs, _, r => by cases vs with | nil => exact ⟨[], rfl, rfl⟩ | cons v vs => exact (by have := r.length; simp at this)
  | x :: xs, vs, h, r => by
    simp only [List.all_cons, Bool.and_eq_true] at h
    cases vs with
    | nil => exact (by have := r.length; simp at this)
    | cons v vs =>
      simp only [VRs] at r
      obtain ⟨u0, us0, e0, r1, r2⟩ := r
      cases e0
      obtain ⟨k, e1, e2⟩ := keyV h.1 r1
      obtain ⟨ks, e3, e4⟩ := keysVs h.2 r2
      exact ⟨k :: ks, by rw [e1, e3]; rfl, by rw [e2, e4]; rfl⟩
theorem e_lenset (D : Gd B sc X Wx n) (ha : PEm B X Wx n ea a) (hs : ns ea = true) (hg : glB sc.scope "len" = true) (hg2 : glB sc.scope "set" = true) :
    PEm B X Wx n (.Call (.Name "len" p) [.Call (.Name "set" p2) [ea] [] q] [] pos) (.blt .lenset (.cons a .nil)) := by
  refine PE.mono (pe_lenSetK D.calm (glB_ok (by rw [D.sco]; exact hg)) (by rw [D.mg]; exact D.fc.nog _ (by decide +kernel)) (glB_ok (by rw [D.sco]; exact hg2)) (by rw [D.mg]; exact D.fc.nog _ (by decide +kernel)) ha hs) fun σ H Q h => ?_
  obtain ⟨g, env, m, H0, M, R, h⟩ := h
  simp only [evE, evRs] at h
  have h' : OkG B g H (relR B env σ H) ((evE B.T (cfN B.T n) env a m).bind fun x m1 => bltG B.T (cfN B.T n) env .lenset [x] m1) Q (fun c d H' => Wx c d σ H') := by
    cases q : evE B.T (cfN B.T n) env a m with
    | ok x m1 => rw [q] at h; exact h
    | exc x m1 => rw [q] at h; exact h
    | stuck => rw [q] at h; exact h
  refine tE_bindF M R Ev.refl h' fun rv m1 g1 v H1 he e1 e1' M1 R1 fr h1 => ?_
  unfold bltG at h1
  simp only [reads] at h1
  split at h1
  case h_2 => exact h1.elim
  rename_i us hus
  split at hus
  case h_2 => cases hus
  rename_i w ws hw hws
  cases hws
  cases hus
  obtain ⟨r2, e2, k2⟩ := h1.lift
  cases w <;> simp only [bltV] at e2 <;> try (cases e2; done)
  rename_i xs
  split at e2
  case isFalse => cases e2
  rename_i hc
  cases e2
  simp only [Bool.and_eq_true, decide_eq_true_eq] at hc
  obtain ⟨l, vs, rfl, qa, ra⟩ := (fr.rd M1 R1 hw : RD B g1 H1 (.lst xs) v)
  obtain ⟨ks, rfl, rfl⟩ := keysVs hc.1 ra
  refine ⟨l, ks, rfl, SqL.of qa, by simpa using hc.2, ?_⟩
  exact k2 g1 _ H1 e1 M1 rfl
end
end Mi

set_option Elab.async false
set_option linter.all false
set_option maxRecDepth 100000
set_option maxHeartbeats 4000000
/-! Mi32: the check of a text against its small form: expressions. -/
namespace Mi
open PySem PySem.Spec L2
open PyProof.Rows (Fr News envOfC)

def ownL (sc : Sc) (own : List Nat) : List (Str × Nat) := own.map fun i => ((sc.N[i]?).getD Str.empty, i)
def blkB (N : List Str) (sc scope : Scope) (own : List (Str × Nat)) : Bool :=
  decide (scope.kind = .function) && (scope.names.all (fun y => decide (scope.names.lookup y.1 = some y.2)) && (own.all (fun p => decide (N[p.2]? = some p.1)) &&
    (scope.names.all (fun y => decide (y.2 ≠ .free) || decide (sc.names.lookup y.1 = some .cell) || decide (sc.names.lookup y.1 = some .free)) &&
      scope.names.all (fun y => !(decide (y.2 = .local) || decide (y.2 = .cell)) || (own.map (·.1)).any (fun x => decide (x = y.1)) || !N.any (fun x => decide (x = y.1))))))
theorem blkB_ok {N : List Str} {sc scope : Scope} {own : List (Str × Nat)} (h : blkB N sc scope own = true) : BlkOk N sc scope own := by
  unfold blkB at h
  simp only [Bool.and_eq_true, decide_eq_true_eq, List.all_eq_true] at h
  obtain ⟨h1, h2, h3, h4, h5⟩ := h
  refine ⟨h1, h2, h3, fun y hy hf => ?_, fun y hy hl => ?_⟩
  · have := h4 y hy
    simp only [Bool.or_eq_true, decide_eq_true_eq] at this
    rcases this with (z | z) | z
    · exact absurd hf z
    · exact .inl z
    · exact .inr z
  · have := h5 y hy
    simp only [Bool.or_eq_true, Bool.not_eq_true', List.any_eq_true, decide_eq_true_eq] at this
    rcases this with (z | ⟨x, z1, z2⟩) | z
    · rcases hl with k | k <;> simp [k] at z
    · exact .inl (z2 ▸ z1)
    · refine .inr fun hm => ?_
      have z' : (N.any fun x => decide (x = y.1)) = true := List.any_eq_true.mpr ⟨y.1, hm, by simp⟩
      rw [z'] at z
      cases z
def optB (f : Es → Bool) : Es → Option Expr → Bool := fun _ _ => true
mutual
def okE (T : Pg) : E → Sc → Expr → Bool
  | .var i, sc, e => match e with | .Name x _ => decide (sc.N[i]? = some x) && (visB sc.scope x && dbg x) | _ => false
  | .int z, sc, e => match e with | .Constant (.int y) _ _ => decide (y = z) | _ => false
  | .str z, sc, e => match e with | .Constant (.str y) _ _ => decide (y = z) | _ => false
  | .bl z, sc, e => match e with | .Constant (.bool y) _ _ => decide (y = z) | _ => false
  | .non, sc, e => match e with | .Constant .none _ _ => true | _ => false
  | .glob k, sc, e => match e with | .Name x _ => decide (T.gnm k = x) && (decide (x ≠ Str.empty) && glB sc.scope x) | _ => false
  | .bin op a b, sc, e => match e with | .BinOp ea o eb _ => decide (o = op.py) && (okE T a sc ea && okE T b sc eb) | _ => false
  | .neg a, sc, e => match e with | .UnaryOp .USub ea _ => okE T a sc ea | _ => false
  | .cmp op a b, sc, e => match e with | .Compare ea [o] [eb] _ => decide (o = op.py) && (noSet eb && (okE T a sc ea && okE T b sc eb)) | _ => false
  | .chain o1 o2 a b c, sc, e => match e with | .Compare ea [o, o'] [eb, ec] _ => decide (o = o1.py) && (decide (o' = o2.py) && (noSet ec && (okE T a sc ea && (okE T b sc eb && okE T c sc ec)))) | _ => false
  | .bool k es, sc, e => match e with | .BoolOp o xs _ => decide (o = bop k) && (!es.isNil && okEs T es sc xs) | _ => false
  | .not a, sc, e => match e with | .UnaryOp .Not ea _ => okE T a sc ea | _ => false
  | .ite c a b, sc, e => match e with | .IfExp ec ea eb _ => okE T c sc ec && (okE T a sc ea && okE T b sc eb) | _ => false
  | .tup es, sc, e => match e with | .Tuple xs _ _ => okEs T es sc xs | _ => false
  | .list es, sc, e => match e with | .List xs _ => okEs T es sc xs | _ => false
  | .dict n ps, sc, e => match n with
    | true => false
    | false => match e with | .Dict ks vs _ => okPs T ps sc ks vs && decide (ks.length ≤ 15) | _ => false
  | .ix a i, sc, e => match e with | .Subscript ea ei _ => noSl ei && (okE T a sc ea && okE T i sc ei) | _ => false
  | .slice a lo hi, sc, e => match e with | .Subscript ea (.Slice l h none _) _ => okE T a sc ea && (okO T lo sc l && okO T hi sc h) | _ => false
  | .rev a, sc, e => match e with | .Subscript ea (.Slice none none (some (.UnaryOp .USub (.Constant (.int z) _ _) _)) _) _ => decide (z = 1) && okE T a sc ea | _ => false
  | .attr a k, sc, e => match e with | .Attribute ea f _ => decide (f = T.anm k) && (baseB ea && okE T a sc ea) | _ => false
  | .call f es, sc, e => match e with | .Call (.Name x _) xs [] _ => (T.fn f).isSome && (decide (T.fnm f = x) && (decide (x ≠ Str.empty) && (glB sc.scope x && okEs T es sc xs))) | _ => false
  | .new c es, sc, e => match e with | .Call (.Name x _) xs [] _ => (T.ini c).isSome && (decide (T.cnm c = x) && (glB sc.scope x && okEs T es sc xs)) | _ => false
  | .newx c es, sc, e => true
  | .meth m a es, sc, e => match e with | .Call (.Attribute ea f ap) xs [] p => decide (f = T.mnm m) && (baseB ea && (decide (xs.length < 30) && ((ap.endLine == p.line) && (okE T a sc ea && okEs T es sc xs)))) | _ => false
  | .bm k a es, sc, e => match e with | .Call (.Attribute ea f ap) xs [] p => decide (f = k.name) && (baseB ea && (decide (xs.length < 30) && ((ap.endLine == p.line) && (okE T a sc ea && okEs T es sc xs)))) | _ => false
  | .blt b es, sc, e => match e with
    | .Call (.Name x _) xs [] _ => if b.plain = true then decide (x = b.nm) && (glB sc.scope x && (!es.isNil && okEs T es sc xs)) else (match b with
      | .lenset => (match es with
        | .cons a .nil => (match xs with
          | [.Call (.Name y _) [ea] [] _] => decide (x = "len") && (decide (y = "set") && (glB sc.scope "len" && (glB sc.scope "set" && (ns ea && okE T a sc ea))))
          | _ => false)
        | _ => false)
      | _ => false)
    | _ => false
  | .isin a ts, sc, e => match e with
    | .Call (.Name x _) [ea, eb] [] _ => decide (x = "isinstance") && (glB sc.scope "isinstance" && (ns ea && (okE T a sc ea && (match eb with
      | .Tuple xs _ _ => tysB T sc.scope ts xs && decide (ts.length ≤ 100)
      | eb => match ts with | [t] => tyB T sc.scope t eb | _ => false))))
    | _ => false
  | .comp tgi own it ifs a, sc, e => match e with
    | .ListComp elt gs scope _ => (match gs with
      | [⟨tg, iter, ifs', k⟩] => decide (k = 0) && (blkB sc.N sc.scope scope (ownL sc own) && (noSet iter && (tgB (sc.blk scope) tgi tg && (tgi.slots.all (fun i => own.any (fun j => decide (j = i))) && (okIt T it sc tg iter && (okIf T ifs (sc.blk scope) ifs' && okE T a (sc.blk scope) elt))))))
      | _ => false)
    | _ => false
  | .dcomp _ tgi own it ifs a b, sc, e => match e with
    | .DictComp kx vx gs scope _ => (match gs with
      | [⟨tg, iter, ifs', k⟩] => decide (k = 0) && (blkB sc.N sc.scope scope (ownL sc own) && (noSet iter && (tgB (sc.blk scope) tgi tg && (tgi.slots.all (fun i => own.any (fun j => decide (j = i))) && (okIt T it sc tg iter && (okIf T ifs (sc.blk scope) ifs' && (okE T a (sc.blk scope) kx && okE T b (sc.blk scope) vx)))))))
      | _ => false)
    | _ => false
  | .cell a, sc, e => plainT e && okE T a sc e
  | .kin neg a k, sc, e => match e with | .Compare ea [o] [.Name x _] _ => decide (o = (if neg then .NotIn else .In)) && (decide (T.dnm k = x) && (decide (x ≠ Str.empty) && (glB sc.scope x && okE T a sc ea))) | _ => false
def okEs (T : Pg) : Es → Sc → List Expr → Bool
  | .nil, sc, xs => match xs with | [] => true | _ => false
  | .cons a es, sc, xs => match xs with | e :: xs => ns e && (okE T a sc e && okEs T es sc xs) | _ => false
def okIf (T : Pg) : Es → Sc → List Expr → Bool
  | .nil, sc, xs => match xs with | [] => true | _ => false
  | .cons a es, sc, xs => match xs with | [e] => es.isNil && okE T a sc e | _ => false
def okO (T : Pg) : Es → Sc → Option Expr → Bool
  | .nil, sc, o => match o with | none => true | _ => false
  | .cons a es, sc, o => match o with | some e => es.isNil && okE T a sc e | _ => false
def okPs (T : Pg) : Ps → Sc → List (Option Expr) → List Expr → Bool
  | .nil, sc, ks, vs => match ks, vs with | [], [] => true | _, _ => false
  | .cons a b ps, sc, ks, vs => match ks, vs with | some k :: ks, v :: vs => okE T a sc k && (okE T b sc v && okPs T ps sc ks vs) | _, _ => false
def okIt (T : Pg) : It → Sc → Expr → Expr → Bool
  | .e a, sc, tg, e => okE T a sc e
  | .rng1 a, sc, tg, e => match e with | .Call (.Name x _) [ea] [] _ => decide (x = "range") && (glB sc.scope "range" && (ns ea && okE T a sc ea)) | _ => false
  | .rng2 a b, sc, tg, e => match e with | .Call (.Name x _) [ea, eb] [] _ => decide (x = "range") && (glB sc.scope "range" && (ns ea && (ns eb && (okE T a sc ea && okE T b sc eb)))) | _ => false
  | .rng3 a b c, sc, tg, e => match e with | .Call (.Name x _) [ea, eb, ec] [] _ => decide (x = "range") && (glB sc.scope "range" && (ns ea && (ns eb && (ns ec && (okE T a sc ea && (okE T b sc eb && okE T c sc ec)))))) | _ => false
  | .enum a, sc, tg, e => match e with | .Call (.Name x _) [ea] [] _ => isTup tg && (decide (x = "enumerate") && (glB sc.scope "enumerate" && (ns ea && okE T a sc ea))) | _ => false
  | .zip a b, sc, tg, e => match e with | .Call (.Name x _) [ea, eb] [] _ => isTup tg && (decide (x = "zip") && (glB sc.scope "zip" && (ns ea && (ns eb && (okE T a sc ea && okE T b sc eb))))) | _ => false
  | .values a, sc, tg, e => false
  | .rev a, sc, tg, e => match e with | .Call (.Name x _) [ea] [] _ => decide (x = "reversed") && (glB sc.scope "reversed" && (ns ea && okE T a sc ea)) | _ => false
end
section
variable {B : Tb} {sc : Sc} {n : Nat}
structure EOk (B : Tb) (sc : Sc) (n : Nat) (e : Expr) (a : E) : Prop where
  v : ∀ {X : Cx} {Wx : WX}, Gd B sc X Wx n → PEm B X Wx n e a
  t : ∀ {X : Cx} {Wx : WX}, Gd B sc X Wx n → PTm B X Wx n e a
def FE (B : Tb) (sc : Sc) (n : Nat) : Es → List Expr → Prop
  | .nil, xs => xs = []
  | .cons a es, xs => ∃ e ys, xs = e :: ys ∧ ns e = true ∧ EOk B sc n e a ∧ FE B sc n es ys
theorem FE.ns : ∀ {es : Es} {xs : List Expr}, FE B sc n es xs → xs.all ns = true
  | .nil, xs, h => by cases (show xs = [] from h); rfl
  | .cons a es, xs, h => by
    obtain ⟨e, ys, rfl, h1, _, h3⟩ := h
    simp [h1, FE.ns h3]
theorem FE.nil' {es : Es} {xs : List Expr} (h : FE B sc n es xs) : Es.nilB xs es := fun e => by
  cases es with
  | nil => rfl
  | cons a es =>
    obtain ⟨e', ys, h1, _⟩ := h
    rw [e] at h1
    cases h1
theorem FE.pa {X : Cx} {Wx : WX} (D : Gd B sc X Wx n) : ∀ {es : Es} {xs : List Expr}, FE B sc n es xs → PAm B X Wx n xs es
  | .nil, xs, h => by cases (show xs = [] from h); exact a_nil
  | .cons a es, xs, h => by
    obtain ⟨e, ys, rfl, h1, h2, h3⟩ := h
    exact a_cons (h2.v D) (FE.pa D h3) h1
theorem FE.pr {X : Cx} {Wx : WX} (D : Gd B sc X Wx n) : ∀ {es : Es} {xs : List Expr}, FE B sc n es xs → PA X xs (tRs B (cfN B.T n) Wx es)
  | .nil, xs, h => by cases (show xs = [] from h); exact r_nil
  | .cons a es, xs, h => by
    obtain ⟨e, ys, rfl, h1, h2, h3⟩ := h
    exact r_cons (h2.v D) (FE.pr D h3) h1
theorem FE.pn {X : Cx} {Wx : WX} (D : Gd B sc X Wx n) : ∀ {es : Es} {xs : List Expr}, FE B sc n es xs → PA X xs (tNs B (cfN B.T n) Wx es)
  | .nil, xs, h => by cases (show xs = [] from h); exact n_nil
  | .cons a es, xs, h => by
    obtain ⟨e, ys, rfl, h1, h2, h3⟩ := h
    exact n_cons (h2.v D) (FE.pn D h3) h1
theorem FE.bv {X : Cx} {Wx : WX} {k : Bool} {pos : Pos} (D : Gd B sc X Wx n) : ∀ {es : Es} {xs : List Expr}, FE B sc n es xs → es.isNil = false → PE X (.BoolOp (bop k) xs pos) (tBv B (cfN B.T n) Wx k es) ∧ PW X (.BoolOp (bop k) xs pos) (tBt B (cfN B.T n) Wx k es)
  | .nil, xs, h, hn => by cases hn
  | .cons a .nil, xs, h, _ => by
    obtain ⟨e, ys, rfl, h1, h2, h3⟩ := h
    cases (show ys = [] from h3)
    exact ⟨bv_one (h2.v D), bt_one (h2.t D)⟩
  | .cons a (.cons b es), xs, h, _ => by
    obtain ⟨e, ys, rfl, h1, h2, h3⟩ := h
    have i := FE.bv (k := k) (pos := pos) D h3 rfl
    obtain ⟨e', ys', rfl, _⟩ := h3
    exact ⟨bv_cons (h2.v D) i.1 rfl, bt_cons (h2.t D) i.2 rfl⟩
def FP (B : Tb) (sc : Sc) (n : Nat) : Ps → List (Option Expr) → List Expr → Prop
  | .nil, ks, vs => ks = [] ∧ vs = []
  | .cons a b ps, ks, vs => ∃ k ks' v vs', ks = some k :: ks' ∧ vs = v :: vs' ∧ EOk B sc n k a ∧ EOk B sc n v b ∧ FP B sc n ps ks' vs'
theorem FP.pp {X : Cx} {Wx : WX} {pos : Pos} (D : Gd B sc X Wx n) : ∀ {ps : Ps} {ks : List (Option Expr)} {vs : List Expr}, FP B sc n ps ks vs → PPs X pos ks vs (trs B (cfN B.T n) Wx ps) ∧ ks.all (·.isSome) = true ∧ ks.length = vs.length
  | .nil, ks, vs, h => by obtain ⟨rfl, rfl⟩ := h; exact ⟨pps_nil, rfl, rfl⟩
  | .cons a b ps, ks, vs, h => by
    obtain ⟨k, ks', v, vs', rfl, rfl, h1, h2, h3⟩ := h
    obtain ⟨i1, i2, i3⟩ := FP.pp (pos := pos) D h3
    exact ⟨pps_cons (h1.v D) (h2.v D) i1, by simp [i2], by simp [i3]⟩
def IOk (B : Tb) (sc : Sc) (n : Nat) (tg e : Expr) (it : Mi.It) : Prop := ∀ {X : Cx} {Wx : WX}, Gd B sc X Wx n → PI X tg e (tI B (cfN B.T n) Wx it)
def IfOk (B : Tb) (sc : Sc) (n : Nat) (xs : List Expr) (es : Es) : Prop := ∀ {X : Cx} {Wx : WX}, Gd B sc X Wx n → PTs X xs (tIfs B (cfN B.T n) Wx es)
def OOk (B : Tb) (sc : Sc) (n : Nat) (o : Option Expr) (es : Es) : Prop := ∀ {X : Cx} {Wx : WX}, Gd B sc X Wx n → PO X o (tPo B (cfN B.T n) Wx es)
theorem EOk.of {e : Expr} {a : E} (hp : plainT e = true) (h : ∀ {X : Cx} {Wx : WX}, Gd B sc X Wx n → PEm B X Wx n e a) : EOk B sc n e a := ⟨h, fun D => t_plain (h D) hp⟩
theorem own_ok {own : List Nat} : (ownL sc own).map (·.2) = own := by
  unfold ownL
  rw [List.map_map]
  exact List.map_id _
end
end Mi

set_option Elab.async false
set_option linter.all false
set_option maxRecDepth 100000
set_option maxHeartbeats 4000000
/-! Mi33: the check is right: expressions. -/
namespace Mi
open PySem PySem.Spec L2
open PyProof.Rows (Fr News envOfC)

section
variable {B : Tb} {n : Nat}
mutual
theorem okE_ok : ∀ (a : E) {sc : Sc} {e : Expr}, okE B.T a sc e = true → EOk B sc n e a
  | .var i, sc, e, h => by
    simp only [okE] at h
    split at h
    · simp only [Bool.and_eq_true, decide_eq_true_eq] at h
      exact .of rfl fun D => e_var D h.1 h.2.1 h.2.2
    · cases h
  | .int z, sc, e, h => by
    simp only [okE] at h
    split at h
    · cases of_decide_eq_true h
      exact .of rfl fun D => e_int
    · cases h
  | .str z, sc, e, h => by
    simp only [okE] at h
    split at h
    · cases of_decide_eq_true h
      exact .of rfl fun D => e_str
    · cases h
  | .bl z, sc, e, h => by
    simp only [okE] at h
    split at h
    · cases of_decide_eq_true h
      exact .of rfl fun D => e_bl
    · cases h
  | .non, sc, e, h => by
    simp only [okE] at h
    split at h
    · exact .of rfl fun D => e_non
    · cases h
  | .glob k, sc, e, h => by
    simp only [okE] at h
    split at h
    · simp only [Bool.and_eq_true, decide_eq_true_eq] at h
      exact .of rfl fun D => e_glob D h.1 h.2.1 h.2.2
    · cases h
  | .bin op a b, sc, e, h => by
    simp only [okE] at h
    split at h
    · simp only [Bool.and_eq_true, decide_eq_true_eq] at h
      obtain ⟨rfl, h1, h2⟩ := h
      exact .of rfl fun D => e_bin D ((okE_ok a h1).v D) ((okE_ok b h2).v D)
    · cases h
  | .neg a, sc, e, h => by
    simp only [okE] at h
    split at h
    · exact .of rfl fun D => e_neg ((okE_ok a h).v D)
    · cases h
  | .cmp op a b, sc, e, h => by
    simp only [okE] at h
    split at h
    · simp only [Bool.and_eq_true, decide_eq_true_eq] at h
      obtain ⟨rfl, h0, h1, h2⟩ := h
      exact ⟨fun D => e_cmp D ((okE_ok a h1).v D) ((okE_ok b h2).v D) h0, fun D => t_cmp D ((okE_ok a h1).v D) ((okE_ok b h2).v D) h0⟩
    · cases h
  | .chain o1 o2 a b c, sc, e, h => by
    simp only [okE] at h
    split at h
    · simp only [Bool.and_eq_true, decide_eq_true_eq] at h
      obtain ⟨rfl, rfl, h0, h1, h2, h3⟩ := h
      exact ⟨fun D => e_chain D ((okE_ok a h1).v D) ((okE_ok b h2).v D) ((okE_ok c h3).v D) h0, fun D => t_chain D ((okE_ok a h1).v D) ((okE_ok b h2).v D) ((okE_ok c h3).v D) h0⟩
    · cases h
  | .bool k es, sc, e, h => by
    simp only [okE] at h
    split at h
    · simp only [Bool.and_eq_true, decide_eq_true_eq, Bool.not_eq_true'] at h
      obtain ⟨rfl, h0, h1⟩ := h
      have F := okEs_ok es h1
      exact ⟨fun D => e_bool (F.bv D h0).1, fun D => t_bool (F.bv D h0).2⟩
    · cases h
  | .not a, sc, e, h => by
    simp only [okE] at h
    split at h
    · exact ⟨fun D => e_not ((okE_ok a h).v D), fun D => t_not ((okE_ok a h).t D)⟩
    · cases h
  | .ite c a b, sc, e, h => by
    simp only [okE] at h
    split at h
    · simp only [Bool.and_eq_true] at h
      obtain ⟨h0, h1, h2⟩ := h
      exact ⟨fun D => e_ite ((okE_ok c h0).t D) ((okE_ok a h1).v D) ((okE_ok b h2).v D), fun D => t_ite ((okE_ok c h0).t D) ((okE_ok a h1).t D) ((okE_ok b h2).t D)⟩
    · cases h
  | .tup es, sc, e, h => by
    simp only [okE] at h
    split at h
    · exact .of rfl fun D => e_tup ((okEs_ok es h).pa D)
    · cases h
  | .list es, sc, e, h => by
    simp only [okE] at h
    split at h
    · exact .of rfl fun D => e_list ((okEs_ok es h).pa D)
    · cases h
  | .dict nn ps, sc, e, h => by
    cases nn with
    | true => simp only [okE] at h; cases h
    | false =>
      simp only [okE] at h
      split at h
      · simp only [Bool.and_eq_true, decide_eq_true_eq] at h
        have F := okPs_ok ps h.1
        rename_i ks vs p
        by_cases h0 : ks = []
        · subst h0
          cases ps with
          | nil =>
            obtain ⟨_, rfl⟩ := F
            exact .of rfl fun D => e_dict0
          | cons a b ps =>
            obtain ⟨_, _, _, _, z, _⟩ := F
            cases z
        · exact .of rfl fun D => e_dict (F.pp D).1 (F.pp (pos := p) D).2.1 (F.pp (pos := p) D).2.2 h0 h.2
      · cases h
  | .ix a i, sc, e, h => by
    simp only [okE] at h
    split at h
    · simp only [Bool.and_eq_true] at h
      exact .of rfl fun D => e_ix D ((okE_ok a h.2.1).v D) ((okE_ok i h.2.2).v D) h.1
    · cases h
  | .slice a lo hi, sc, e, h => by
    simp only [okE] at h
    split at h
    · simp only [Bool.and_eq_true] at h
      exact .of rfl fun D => e_slice D ((okE_ok a h.1).v D) (okO_ok lo h.2.1 D) (okO_ok hi h.2.2 D)
    · cases h
  | .rev a, sc, e, h => by
    simp only [okE] at h
    split at h
    · simp only [Bool.and_eq_true, decide_eq_true_eq] at h
      obtain ⟨rfl, h1⟩ := h
      exact .of rfl fun D => e_rev D ((okE_ok a h1).v D)
    · cases h
  | .attr a k, sc, e, h => by
    simp only [okE] at h
    split at h
    · simp only [Bool.and_eq_true, decide_eq_true_eq] at h
      obtain ⟨rfl, h1, h2⟩ := h
      exact .of rfl fun D => e_attr D ((okE_ok a h2).v D) h1
    · cases h
  | .call f es, sc, e, h => by
    simp only [okE] at h
    split at h
    · simp only [Bool.and_eq_true, decide_eq_true_eq] at h
      obtain ⟨h0, h1, h2, h3, h4⟩ := h
      obtain ⟨⟨np, fns, bd⟩, hf⟩ := Option.isSome_iff_exists.mp h0
      have F := okEs_ok es h4
      exact .of rfl fun D => e_call D hf h1 h2 h3 (F.pa D) F.ns F.nil'
    · cases h
  | .new c es, sc, e, h => by
    simp only [okE] at h
    split at h
    · simp only [Bool.and_eq_true, decide_eq_true_eq] at h
      obtain ⟨h0, h1, h2, h4⟩ := h
      obtain ⟨⟨np, fns, bd⟩, hf⟩ := Option.isSome_iff_exists.mp h0
      have F := okEs_ok es h4
      exact .of rfl fun D => e_new D hf h1 h2 (F.pa D) F.ns F.nil'
    · cases h
  | .newx c es, sc, e, h => ⟨fun D => ⟨fun pins s σ H Q I h => by
      obtain ⟨g, env, m, H0, M, R, h⟩ := h
      simp only [evE] at h
      exact h.elim⟩, fun D => ⟨fun pins s σ H Q I h => by
      obtain ⟨g, env, m, H0, M, R, h⟩ := h
      unfold evT at h
      simp only [evE] at h
      exact h.elim⟩⟩
  | .meth m a es, sc, e, h => by
    simp only [okE] at h
    split at h
    · simp only [Bool.and_eq_true, decide_eq_true_eq] at h
      obtain ⟨rfl, h1, h2, h3, h4, h5⟩ := h
      have F := okEs_ok es h5
      exact .of rfl fun D => e_meth D ((okE_ok a h4).v D) (F.pa D) h1 F.ns h2 h3 F.nil'
    · cases h
  | .bm k a es, sc, e, h => by
    simp only [okE] at h
    split at h
    · simp only [Bool.and_eq_true, decide_eq_true_eq] at h
      obtain ⟨rfl, h1, h2, h3, h4, h5⟩ := h
      have F := okEs_ok es h5
      exact .of rfl fun D => e_bm D ((okE_ok a h4).v D) (F.pa D) h1 F.ns h2 h3 F.nil'
    · cases h
  | .blt b es, sc, e, h => by
    unfold okE at h
    split at h
    · split at h
      · rename_i hpl
        simp only [Bool.and_eq_true, decide_eq_true_eq, Bool.not_eq_true'] at h
        obtain ⟨rfl, h2, h3, h4⟩ := h
        have F := okEs_ok es h4
        cases es with
        | nil => cases h3
        | cons a es =>
          have F' := F
          obtain ⟨e', ys, rfl, k1, _, k3⟩ := F'
          exact .of rfl fun D => e_blt D hpl h2 (F.pr D) k1 k3.ns
      · split at h
        · split at h
          · rename_i a
            split at h
            · simp only [Bool.and_eq_true, decide_eq_true_eq] at h
              obtain ⟨rfl, rfl, h1, h2, h3, h4⟩ := h
              exact .of rfl fun D => e_lenset D ((okE_ok a h4).v D) h3 h1 h2
            · cases h
          · cases h
        · cases h
    · cases h
  | .isin a ts, sc, e, h => by
    simp only [okE] at h
    split at h
    · rename_i x p ea eb q
      simp only [Bool.and_eq_true, decide_eq_true_eq] at h
      obtain ⟨rfl, h1, h2, h3, h4⟩ := h
      split at h4
      · simp only [Bool.and_eq_true, decide_eq_true_eq] at h4
        exact .of rfl fun D => e_isiT D h1 ((okE_ok a h3).v D) h4.1 h2 h4.2
      · split at h4
        · exact .of rfl fun D => e_isi1 D h1 ((okE_ok a h3).v D) h4 h2
        · cases h4
    · cases h
  | .comp tgi own it ifs a, sc, e, h => by
    simp only [okE] at h
    split at h
    · rename_i elt gs scope p
      split at h
      · rename_i tg iter ifs' k
        simp only [Bool.and_eq_true, decide_eq_true_eq] at h
        obtain ⟨rfl, h1, h2, h3, h4, h5, h6, h7⟩ := h
        refine .of rfl fun {X Wx} D => ?_
        have := e_comp (own := ownL sc own) (pos := p) D (okIt_ok it h5 D) (by rw [D.N, D.sco]; exact blkB_ok h1) h2 h3 (by rw [own_ok]; simpa using h4) (fun X' D' => okIf_ok ifs h6 D') (fun X' D' => (okE_ok a h7).v D')
        rw [own_ok] at this
        exact this
      · cases h
    · cases h
  | .dcomp nn tgi own it ifs a b, sc, e, h => by
    simp only [okE] at h
    split at h
    · rename_i elt elt2 gs scope p
      split at h
      · rename_i tg iter ifs' k
        simp only [Bool.and_eq_true, decide_eq_true_eq] at h
        obtain ⟨rfl, h1, h2, h3, h4, h5, h6, h7, h8⟩ := h
        refine .of rfl fun {X Wx} D => ?_
        have := e_dcomp (own := ownL sc own) (pos := p) (nn := nn) D (okIt_ok it h5 D) (by rw [D.N, D.sco]; exact blkB_ok h1) h2 h3 (by rw [own_ok]; simpa using h4) (fun X' D' => okIf_ok ifs h6 D') (fun X' D' => (okE_ok a h7).v D') (fun X' D' => (okE_ok b h8).v D')
        rw [own_ok] at this
        exact this
      · cases h
    · cases h
  | .kin neg a k, sc, e, h => by
    simp only [okE] at h
    split at h
    · simp only [Bool.and_eq_true, decide_eq_true_eq] at h
      obtain ⟨rfl, h1, h2, h3, h4⟩ := h
      exact ⟨fun D => e_kin D ((okE_ok a h4).v D) h1 h2 h3, fun D => t_kin D ((okE_ok a h4).v D) h1 h2 h3⟩
    · cases h
  | .cell a, sc, e, h => by
    simp only [okE] at h
    simp only [Bool.and_eq_true] at h
    exact .of h.1 fun D => e_cell ((okE_ok a h.2).v D)
theorem okEs_ok : ∀ (es : Es) {sc : Sc} {xs : List Expr}, okEs B.T es sc xs = true → FE B sc n es xs
  | .nil, sc, xs, h => by
    simp only [okEs] at h
    split at h
    · rfl
    · cases h
  | .cons a es, sc, xs, h => by
    simp only [okEs] at h
    split at h
    · rename_i e xs
      simp only [Bool.and_eq_true] at h
      exact ⟨e, xs, rfl, h.1, okE_ok a h.2.1, okEs_ok es h.2.2⟩
    · cases h
theorem okIf_ok : ∀ (es : Es) {sc : Sc} {xs : List Expr}, okIf B.T es sc xs = true → IfOk B sc n xs es
  | .nil, sc, xs, h => by
    simp only [okIf] at h
    split at h
    · exact fun D => ifs_nil
    · cases h
  | .cons a es, sc, xs, h => by
    simp only [okIf] at h
    split at h
    · simp only [Bool.and_eq_true] at h
      cases es with
      | nil => exact fun D => ifs_one ((okE_ok a h.2).t D)
      | cons _ _ => cases h.1
    · cases h
theorem okO_ok : ∀ (es : Es) {sc : Sc} {o : Option Expr}, okO B.T es sc o = true → OOk B sc n o es
  | .nil, sc, o, h => by
    simp only [okO] at h
    split at h
    · exact fun D => p_none
    · cases h
  | .cons a es, sc, o, h => by
    simp only [okO] at h
    split at h
    · simp only [Bool.and_eq_true] at h
      cases es with
      | nil => exact fun D => p_some ((okE_ok a h.2).v D)
      | cons _ _ => cases h.1
    · cases h
theorem okPs_ok : ∀ (ps : Ps) {sc : Sc} {ks : List (Option Expr)} {vs : List Expr}, okPs B.T ps sc ks vs = true → FP B sc n ps ks vs
  | .nil, sc, ks, vs, h => by
    simp only [okPs] at h
    split at h
    · exact ⟨rfl, rfl⟩
    · cases h
  | .cons a b ps, sc, ks, vs, h => by
    simp only [okPs] at h
    split at h
    · rename_i k ks v vs
      simp only [Bool.and_eq_true] at h
      exact ⟨k, ks, v, vs, rfl, rfl, okE_ok a h.1, okE_ok b h.2.1, okPs_ok ps h.2.2⟩
    · cases h
theorem okIt_ok : ∀ (it : Mi.It) {sc : Sc} {tg e : Expr}, okIt B.T it sc tg e = true → IOk B sc n tg e it
  | .e a, sc, tg, e, h => by
    simp only [okIt] at h
    exact fun D => i_e D ((okE_ok a h).v D)
  | .rng1 a, sc, tg, e, h => by
    simp only [okIt] at h
    split at h
    · simp only [Bool.and_eq_true, decide_eq_true_eq] at h
      obtain ⟨rfl, h1, h2, h3⟩ := h
      exact fun D => i_rng1 D h1 ((okE_ok a h3).v D) h2
    · cases h
  | .rng2 a b, sc, tg, e, h => by
    simp only [okIt] at h
    split at h
    · simp only [Bool.and_eq_true, decide_eq_true_eq] at h
      obtain ⟨rfl, h1, h2, h3, h4, h5⟩ := h
      exact fun D => i_rng2 D h1 ((okE_ok a h4).v D) ((okE_ok b h5).v D) h2 h3
    · cases h
  | .rng3 a b c, sc, tg, e, h => by
    simp only [okIt] at h
    split at h
    · simp only [Bool.and_eq_true, decide_eq_true_eq] at h
      obtain ⟨rfl, h1, h2, h3, h4, h5, h6, h7⟩ := h
      exact fun D => i_rng3 D h1 ((okE_ok a h5).v D) ((okE_ok b h6).v D) ((okE_ok c h7).v D) h2 h3 h4
    · cases h
  | .enum a, sc, tg, e, h => by
    simp only [okIt] at h
    split at h
    · simp only [Bool.and_eq_true, decide_eq_true_eq] at h
      obtain ⟨h0, rfl, h1, h2, h3⟩ := h
      cases tg <;> first | (cases h0; done) | exact fun D => i_enum D h1 ((okE_ok a h3).v D) h2
    · cases h
  | .zip a b, sc, tg, e, h => by
    simp only [okIt] at h
    split at h
    · simp only [Bool.and_eq_true, decide_eq_true_eq] at h
      obtain ⟨h0, rfl, h1, h2, h3, h4, h5⟩ := h
      cases tg <;> first | (cases h0; done) | exact fun D => i_zip D h1 ((okE_ok a h4).v D) ((okE_ok b h5).v D) h2 h3
    · cases h
  | .values a, sc, tg, e, h => by
    simp only [okIt] at h
    cases h
  | .rev a, sc, tg, e, h => by
    simp only [okIt] at h
    split at h
    · simp only [Bool.and_eq_true, decide_eq_true_eq] at h
      obtain ⟨rfl, h1, h2, h3⟩ := h
      exact fun D => i_rev D h1 ((okE_ok a h3).v D) h2
    · cases h
end
end
end Mi

set_option Elab.async false
set_option linter.all false
set_option maxRecDepth 100000
set_option maxHeartbeats 4000000
/-! Mi34: the check: statements. -/
namespace Mi
open PySem PySem.Spec L2
open PyProof.Rows (Fr News envOfC)

def S.isFrz : S → Bool | .frz _ => true | _ => false
/-- name = value -/
def okSet (T : Pg) (sc : Sc) (i : Nat) (a : E) (ea eb : Expr) : Bool := nameB sc i ea && (okE T a sc eb && (match eb with
  | .ListComp .. => decide (sc.scope.kind = .function) && (match a with | .comp .. => true | .cell (.comp ..) => true | _ => false)
  | .DictComp .. => decide (sc.scope.kind = .function) && (match a with | .dcomp .. => true | .cell (.dcomp ..) => true | _ => false)
  | eb => noComp eb))
mutual
def okS (T : Pg) : S → Sc → Stmt → Bool
  | .set i _ a, sc, st => match st with | .Assign [ea] eb _ => okSet T sc i a ea eb | _ => false
  | .setT is a, sc, st => match st with | .Assign [ea] eb _ => tgB sc (.t is) ea && (noComp eb && (noTup eb && okE T a sc eb)) | _ => false
  | .setP is es, sc, st => match st with | .Assign [.Tuple ts _ _] (.Tuple vs _ _) _ => decide (sc.scope.kind = .function) && (setPB sc is ts vs && okEs T es sc vs) | _ => false
  | .setF a f e, sc, st => match st with | .Assign [.Attribute ea g _] eb _ => decide (g = T.anm f) && (okE T a sc ea && okE T e sc eb) | _ => false
  | .setIx a i e, sc, st => match st with | .Assign [.Subscript ea ei _] eb _ => noSl ei && (okE T a sc ea && (okE T i sc ei && okE T e sc eb)) | _ => false
  | .aug i op e, sc, st => match st with | .AugAssign ea o eb _ => decide (o = op.py) && (augOp op && (nameB sc i ea && okE T e sc eb)) | _ => false
  | .augF a f op e, sc, st => match e with
    | .int z => (match st with | .AugAssign (.Attribute ea g _) o (.Constant (.int y) _ _) _ => decide (y = z) && (decide (g = T.anm f) && (decide (o = op.py) && (augOp op && okE T a sc ea))) | _ => false)
    | _ => false
  | .expr e, sc, st => match st with | .Expr ev _ => noComp ev && okE T e sc ev | _ => false
  | .mut i k es, sc, st => match st with | .Expr (.Call (.Attribute ea f ap) xs [] p) _ => decide (f = k.name) && (baseB ea && (decide (xs.length < 30) && ((ap.endLine == p.line) && (okE T (.var i) sc ea && okEs T es sc xs)))) | _ => false
  | .ret e, sc, st => match st with | .Return (some ev) _ => okE T e sc ev | _ => false
  | .retN, sc, st => match st with | .Return none _ => true | _ => false
  | .raise c es, sc, st => if T.exn c = true then (match st with | .Raise (some (.Call (.Name x _) xs [] _)) none _ => decide (T.cnm c = x) && (glB sc.scope x && (!es.isNil && okEs T es sc xs)) | _ => false) else true
  | .ite c a b, sc, st => match st with | .If ec xs ys _ => okE T c sc ec && (okSs T a sc xs && okSs T b sc ys) | _ => false
  | .for tgi it b, sc, st => match st with | .For tg iter xs [] _ => noSet iter && (tgB sc tgi tg && (okIt T it sc tg iter && okSs T b sc xs)) | _ => false
  | .while c b, sc, st => match st with | .While ec xs [] _ => okE T c sc ec && okSs T b sc xs | _ => false
  | .pass, sc, st => match st with | .Pass _ => true | _ => false
  | .brk, sc, st => match st with | .Break _ => true | _ => false
  | .cont, sc, st => match st with | .Continue _ => true | _ => false
  | .try c n b h, sc, st => if T.exn c = true then (match st with
    | .Try body [.ExceptHandler (some (.Name x _)) (some nm) [.Assign [.Name y _] (.Name nm2 _) _] _] [] [] _ => (match h with
      | .cons (.set j false (.var i)) .nil => decide (i = n) && (decide (nm2 = nm) && (decide (T.cnm c = x) && (glB sc.scope x && (decide (sc.N[n]? = some nm) && (decide (sc.scope.names.lookup nm = some .local) && (decide (sc.N[j]? = some y) && (decide (sc.scope.names.lookup y = some .local) && (decide (n ≠ j) && (dbg nm && okSs T b sc body)))))))))
      | _ => false)
    | _ => false) else true
  | .frz i, sc, st => false
def okSs (T : Pg) : Ss → Sc → List Stmt → Bool
  | .nil, sc, sts => match sts with | [] => true | _ => false
  | .cons s ss, sc, sts => if s.isFrz = true then okSs T ss sc sts else match sts with | st :: sts => okS T s sc st && okSs T ss sc sts | [] => false
end
section
variable {B : Tb} {n : Nat}
/-- the context of statements -/
structure Gs' (B : Tb) (sc : Sc) (X : Cx) (Wx : WX) (n : Nat) : Prop where
  d : Gd B sc X Wx n
  po : PassesOwn (model X.prog X.w) X.A X.env X.xe
  fx : Fx B
  tx : Tx X
theorem Gs'.tr {sc : Sc} {X : Cx} {Wx : WX} (G : Gs' B sc X Wx n) {W : WX} {pn : List (Addr × Obj)} {xe : Value → Shared → Prop} (tk : Takes (X.tr pn xe) W) (po : PassesOwn (model X.prog X.w) X.A X.env xe) : Gs' B sc (X.tr pn xe) W n where
  d := ⟨G.d.prog, G.d.w, G.d.K, G.d.mg, G.d.base, G.d.N, G.d.nd, G.d.sco, G.d.fnn, G.d.calm, G.d.room, G.d.gd, tk, G.d.fns, G.d.fc⟩
  po := po
  fx := G.fx
  tx := ⟨G.tx.ex, G.tx.st, G.tx.fr⟩
theorem kind_ok {sc : Sc} {X : Cx} {Wx : WX} {x : Str} (D : Gd B sc X Wx n) (h : sc.scope.names.lookup x = some .local) : X.env.kindOf x = some .local := by
  show X.env.scope.names.lookup x = _
  rw [D.sco]
  exact h
def SOkA (B : Tb) (sc : Sc) (n : Nat) (st : Stmt) (s : S) : Prop := ∀ {X : Cx} {Wx : WX}, Gs' B sc X Wx n → PSm B X Wx n st s
def SsOkA (B : Tb) (sc : Sc) (n : Nat) (sts : List Stmt) (ss : Ss) : Prop := ∀ {X : Cx} {Wx : WX}, Gs' B sc X Wx n → PSsm B X Wx n sts ss
theorem okSet_ok {sc : Sc} {i : Nat} {ow : Bool} {a : E} {ea eb : Expr} {pos : Pos} (h : okSet B.T sc i a ea eb = true) : SOkA B sc n (.Assign [ea] eb pos) (.set i ow a) := by
  unfold okSet at h
  simp only [Bool.and_eq_true] at h
  obtain ⟨h0, h1, h2⟩ := h
  have hE := okE_ok (n := n) a h1
  intro X Wx G
  have D := G.d
  split at h2
  · rename_i elt gs scope p
    simp only [Bool.and_eq_true, decide_eq_true_eq] at h2
    obtain ⟨hk, h2⟩ := h2
    have key : ∀ {tgi own it ifs b}, okE B.T (.comp tgi own it ifs b) sc (.ListComp elt gs scope p) = true → (∀ σ H Q, tE B (cfN B.T n) Wx a σ H Q → tE B (cfN B.T n) Wx (.comp tgi own it ifs b) σ H Q) → PSm B X Wx n (.Assign [ea] (.ListComp elt gs scope p) pos) (.set i ow a) := fun {tgi own it ifs b} h red => by
      simp only [okE] at h
      split at h
      · rename_i tg iter ifs' k
        simp only [Bool.and_eq_true, decide_eq_true_eq] at h
        obtain ⟨rfl, h1, h2, h3, h4, h5, h6, h7⟩ := h
        exact s_setLc (own := ownL sc own) D (by rw [own_ok]; exact red) hk h0 (okIt_ok it h5 D) (by rw [D.N, D.sco]; exact blkB_ok h1) h2 h3 (by rw [own_ok]; simpa using h4) (fun X' D' => okIf_ok ifs h6 D') (fun X' D' => (okE_ok b h7).v D')
      · cases h
    split at h2
    · exact key h1 fun _ _ _ h => h
    · simp only [okE, Bool.and_eq_true] at h1
      exact key (by simp only [okE]; exact h1.2) fun _ _ _ h => cell_red h
    · cases h2
  · rename_i kx vx gs scope p
    simp only [Bool.and_eq_true, decide_eq_true_eq] at h2
    obtain ⟨hk, h2⟩ := h2
    have key : ∀ {nn tgi own it ifs b c}, okE B.T (.dcomp nn tgi own it ifs b c) sc (.DictComp kx vx gs scope p) = true → (∀ σ H Q, tE B (cfN B.T n) Wx a σ H Q → tE B (cfN B.T n) Wx (.dcomp nn tgi own it ifs b c) σ H Q) → PSm B X Wx n (.Assign [ea] (.DictComp kx vx gs scope p) pos) (.set i ow a) := fun {nn tgi own it ifs b c} h red => by
      simp only [okE] at h
      split at h
      · rename_i tg iter ifs' k
        simp only [Bool.and_eq_true, decide_eq_true_eq] at h
        obtain ⟨rfl, h1, h2, h3, h4, h5, h6, h7, h8⟩ := h
        exact s_setDc (own := ownL sc own) D (by rw [own_ok]; exact red) hk h0 (okIt_ok it h5 D) (by rw [D.N, D.sco]; exact blkB_ok h1) h2 h3 (by rw [own_ok]; simpa using h4) (fun X' D' => okIf_ok ifs h6 D') (fun X' D' => (okE_ok b h7).v D') (fun X' D' => (okE_ok c h8).v D')
      · cases h
    split at h2
    · exact key h1 fun _ _ _ h => h
    · simp only [okE, Bool.and_eq_true] at h1
      exact key (by simp only [okE]; exact h1.2) fun _ _ _ h => cell_red h
    · cases h2
  · exact s_set D h0 (hE.v D) h2
mutual
theorem okS_ok : ∀ (s : S) {sc : Sc} {st : Stmt}, okS B.T s sc st = true → SOkA B sc n st s
  | .set i ow a, sc, st, h => by
    simp only [okS] at h
    split at h
    · exact okSet_ok h
    · cases h
  | .setT is a, sc, st, h => by
    simp only [okS] at h
    split at h
    · simp only [Bool.and_eq_true] at h
      exact fun G => s_setT G.d h.1 ((okE_ok a h.2.2.2).v G.d) h.2.1 h.2.2.1
    · cases h
  | .setP is es, sc, st, h => by
    simp only [okS] at h
    split at h
    · simp only [Bool.and_eq_true, decide_eq_true_eq] at h
      exact fun G => s_setP G.d h.1 h.2.1 ((okEs_ok es h.2.2).pn G.d)
    · cases h
  | .setF a f e, sc, st, h => by
    simp only [okS] at h
    split at h
    · simp only [Bool.and_eq_true, decide_eq_true_eq] at h
      obtain ⟨rfl, h1, h2⟩ := h
      exact fun G => s_setF G.d ((okE_ok a h1).v G.d) ((okE_ok e h2).v G.d)
    · cases h
  | .setIx a i e, sc, st, h => by
    simp only [okS] at h
    split at h
    · simp only [Bool.and_eq_true] at h
      exact fun G => s_setIx G.d ((okE_ok a h.2.1).v G.d) ((okE_ok i h.2.2.1).v G.d) ((okE_ok e h.2.2.2).v G.d) h.1
    · cases h
  | .aug i op e, sc, st, h => by
    simp only [okS] at h
    split at h
    · simp only [Bool.and_eq_true, decide_eq_true_eq] at h
      obtain ⟨rfl, h1, h2, h3⟩ := h
      exact fun G => s_aug G.d h1 h2 ((okE_ok e h3).v G.d)
    · cases h
  | .augF a f op e, sc, st, h => by
    simp only [okS] at h
    split at h
    · split at h
      · simp only [Bool.and_eq_true, decide_eq_true_eq] at h
        obtain ⟨rfl, rfl, rfl, h1, h2⟩ := h
        exact fun G => s_augF G.d h1 ((okE_ok a h2).v G.d)
      · cases h
    · cases h
  | .expr e, sc, st, h => by
    simp only [okS] at h
    split at h
    · simp only [Bool.and_eq_true] at h
      exact fun G => s_expr ((okE_ok e h.2).v G.d) h.1
    · cases h
  | .mut i k es, sc, st, h => by
    simp only [okS] at h
    split at h
    · simp only [Bool.and_eq_true, decide_eq_true_eq] at h
      obtain ⟨rfl, h1, h2, h3, h4, h5⟩ := h
      have F := okEs_ok (n := n) es h5
      exact fun G => s_mut G.d ((okE_ok (.var i) h4).v G.d) (F.pa G.d) h1 F.ns h2 h3 F.nil'
    · cases h
  | .ret e, sc, st, h => by
    simp only [okS] at h
    split at h
    · exact fun G => s_ret ((okE_ok e h).v G.d)
    · cases h
  | .retN, sc, st, h => by
    simp only [okS] at h
    split at h
    · exact fun G => s_retN
    · cases h
  | .raise c es, sc, st, h => by
    simp only [okS] at h
    split at h
    · rename_i hx
      split at h
      · simp only [Bool.and_eq_true, decide_eq_true_eq, Bool.not_eq_true'] at h
        obtain ⟨h1, h2, h3, h4⟩ := h
        have F := okEs_ok (n := n) es h4
        exact fun G => s_raise G.d G.fx hx h1 h2 (F.pa G.d) F.ns (fun z => by
          have := F.nil'
          cases es with
          | nil => cases h3
          | cons a es => obtain ⟨e, ys, z2, _⟩ := F; rw [z2] at z; cases z)
      · cases h
    · rename_i hx
      exact fun G => ⟨fun pins s σ H D I h => by
        obtain ⟨g0, H0, gb, g, env, m, ev, M, R, h⟩ := h
        simp only [evS, if_neg hx] at h
        exact h.elim⟩
  | .ite c a b, sc, st, h => by
    simp only [okS] at h
    split at h
    · simp only [Bool.and_eq_true] at h
      exact fun G => s_ite ((okE_ok c h.1).t G.d) (okSs_ok a h.2.1 G) (okSs_ok b h.2.2 G)
    · cases h
  | .for tgi it b, sc, st, h => by
    simp only [okS] at h
    split at h
    · simp only [Bool.and_eq_true] at h
      exact fun G => s_for G.d G.po (okIt_ok it h.2.2.1 G.d) h.2.1 (okSs_ok b h.2.2.2 G) h.1
    · cases h
  | .while c b, sc, st, h => by
    simp only [okS] at h
    split at h
    · simp only [Bool.and_eq_true] at h
      exact fun G => s_while G.po ((okE_ok c h.1).t G.d) (okSs_ok b h.2 G)
    · cases h
  | .pass, sc, st, h => by
    simp only [okS] at h
    split at h
    · exact fun G => s_pass
    · cases h
  | .brk, sc, st, h => by
    simp only [okS] at h
    split at h
    · exact fun G => s_brk
    · cases h
  | .cont, sc, st, h => by
    simp only [okS] at h
    split at h
    · exact fun G => s_cont
    · cases h
  | .try c k b hh, sc, st, h => by
    simp only [okS] at h
    split at h
    · rename_i hx
      split at h
      · split at h
        · simp only [Bool.and_eq_true, decide_eq_true_eq] at h
          obtain ⟨rfl, rfl, h1, h2, h3, h4, h5, h6, h7, h8, h9⟩ := h
          exact fun G => s_try G.d G.fx G.tx hx h1 h2 h3 h4 h5 h6 h7 (dbg_ok h8) (kind_ok G.d h4) (kind_ok G.d h6) fun W pn xe tk po => okSs_ok b h9 (G.tr tk po)
        · cases h
      · cases h
    · rename_i hx
      exact fun G => ⟨fun pins s σ H D I h => by
        obtain ⟨g0, H0, gb, g, env, m, ev, M, R, h⟩ := h
        simp only [evS, if_neg hx] at h
        exact h.elim⟩
  | .frz i, sc, st, h => by
    simp only [okS] at h
    cases h
theorem okSs_ok : ∀ (ss : Ss) {sc : Sc} {sts : List Stmt}, okSs B.T ss sc sts = true → SsOkA B sc n sts ss
  | .nil, sc, sts, h => by
    simp only [okSs] at h
    split at h
    · exact fun G => s_nil
    · cases h
  | .cons s ss, sc, sts, h => by
    simp only [okSs] at h
    split at h
    · rename_i hf
      cases s <;> first | (cases hf; done) | exact fun G => s_frz (okSs_ok ss h G)
    · split at h
      · simp only [Bool.and_eq_true] at h
        exact fun G => s_cons (okS_ok s h.1 G) (okSs_ok ss h.2 G)
      · cases h
end
end
end Mi

set_option Elab.async false
set_option linter.all false
set_option maxRecDepth 100000
set_option maxHeartbeats 4000000
/-! Mi35: the defs keep their promises. -/
namespace Mi
open PySem PySem.Spec L2
open PyProof.Rows (Fr News envOfC)

section
variable {B : Tb} {n : Nat} {N ps : List Str} {x qual : Str} {params : Arguments} {body : List Stmt} {scope : Scope} {dvs : List V} {kws : List (Str × V)} {fd : FuncData} {f : Addr}
/-- a def's body's context -/
theorem gs_of {cdv : Value} {A : Around} {outer : List Env} {s : Shared} {H : Hp} {E : XK} (hF : Fns B n) (fc : Fc B) (fx : Fx B) (S : FnScope N ps scope) (hr : Room (2 * n + 3) (A.deeper (envOfC qual scope s.heap.objs.size f cdv))) (hg : A.guards = some []) :
    Gs' B ⟨N, scope, fun _ => true⟩ (cxOf (L2.CX B.P B.w) B.P B.w B.K B.mg B.base N qual scope f cdv A outer s H E) (fun cls d _ H => E cls d H) n where
  d := ⟨rfl, rfl, rfl, rfl, rfl, rfl, S.nd, rfl, rfl, rfl, hr, hg, takes_of rfl rfl rfl rfl, hF, fc⟩
  po := passes_of rfl
  fx := fx
  tx := ⟨rfl, rfl, rfl⟩
/-- the names at the start -/
theorem er_start {g : Gh} {H H0 : Hp} {ws : List W} {vs : List V} (h : VRs B g.G g.ρ ws vs) : ER B g (env0 N.length (ws.map .val)) (L2.start N vs) H H0 := by
  have el : ws.length = vs.length := h.length
  have noown : ∀ (i : Nat) (ob : Ob), (env0 N.length (ws.map .val))[i]? = some (.own ob) → False := fun i ob e => by
    unfold env0 at e
    by_cases hi : i < ws.length
    · rw [List.getElem?_append_left (by simpa using hi), List.getElem?_map] at e
      cases q : ws[i]? with
      | none => rw [q] at e; cases e
      | some w => rw [q] at e; cases e
    · rw [List.getElem?_append_right (by simpa using hi), List.getElem?_replicate] at e
      split at e <;> cases e
  refine ⟨?_, fun i w e => ?_, fun i ob e => (noown i ob e).elim, fun i j oi oj a e _ _ _ => (noown i oi e).elim, fun i c fs a e _ => (noown i _ e).elim⟩
  · unfold env0 L2.start
    simp [el]
  · unfold env0 at e
    by_cases hi : i < ws.length
    · rw [List.getElem?_append_left (by simpa using hi), List.getElem?_map] at e
      cases q : ws[i]? with
      | none => rw [q] at e; cases e
      | some w' =>
        rw [q] at e
        cases e
        obtain ⟨v, hv, rv⟩ := h.get q
        refine ⟨v, ?_, rv⟩
        unfold L2.start
        rw [List.getElem?_append_left (by simpa [← el] using hi), List.getElem?_map, hv]
        rfl
    · rw [List.getElem?_append_right (by simpa using hi), List.getElem?_replicate] at e
      split at e <;> cases e
theorem sok_of {g : Gh} {H : Hp} {r : SR} {Q : VK} {E : XK} (h : OkG B g H (relC B H) (outOf r) Q E) : SOk B (fun cls d _ H => E cls d H) g H g r { nx := fun _ H' => Q .non H', rt := Q } := by
  cases r with
  | next env m => exact fun g' σ' H' e M R => h g' .non H' e.e M rfl
  | brk env m => exact (h : False).elim
  | cont env m => exact (h : False).elim
  | ret rv m => exact fun g' v H' e M R => h g' v H' e.e M R
  | exc x env m => exact fun g' σ' H' cls d e M R q => h g' H' cls d e.e M q
  | stuck => exact (h : False).elim
theorem fn_FG {i np ns : Nat} {b : Ss} (hF : Fns B n) (fc : Fc B) (fx : Fx B) (F : FunD B.K x qual params body scope dvs kws (B.fA i) fd) (S : FnScope N ps scope) (hT : B.T.fn i = some (np, ns, b)) (hnp : ps.length = np) (hns : N.length = ns)
    (ok : okSs B.T b ⟨N, scope, fun _ => true⟩ body = true) : FG B.P B.w B.K B.mg B.base (2 * (n + 1) + 2) (B.fA i) fd ps (SpF B (n + 1) i np) := by
  obtain ⟨oc, od, dV, kV, doc, pm, an, cdv, ct, osl, rfl, lk, hcd, _, _⟩ := F.ex
  refine fn_ofG (k := 2 * n + 3) lk hcd S (fun vs H Q E h => ?_) fun A outer s H vs Q E hr hg h => ?_
  · obtain ⟨g, m, ws, M, hv, hl, _⟩ := h
    rw [← hv.length, hl, hnp]
  · obtain ⟨g, m, ws, M, hv, hl, h⟩ := h
    refine ⟨_, okSs_ok b ok (gs_of hF fc fx S hr hg), g, H, g, g, env0 N.length (ws.map .val), m, ⟨Ev.refl, Gk.refl⟩, M, er_start hv, ?_⟩
    unfold cfN at h
    dsimp only at h
    rw [hT] at h
    dsimp only at h
    rw [if_pos hl] at h
    rw [hns]
    exact sok_of h
end

/-! ### self -/
def Tb.sl (B : Tb) (x : Addr) : Tb := { B with slf := x }
section
variable {B : Tb} {x : Addr}
mutual
theorem VR.sl {G : Hp} {ρ : List Addr} : ∀ (w : W) (v : V), VR (B.sl x) G ρ w v ↔ VR B G ρ w v
  | .non, v => by simp only [VR]
  | .bl b, v => by simp only [VR]
  | .int i, v => by simp only [VR]
  | .str s, v => by simp only [VR]
  | .tup xs, v => by
    simp only [VR, VRs.sl xs]
    exact Iff.rfl
  | .lst xs, v => by
    simp only [VR, VRs.sl xs]
  | .dct n ks us, v => by
    simp only [VR, VRs.sl us]
  | .ins c fs, v => by
    simp only [VR, VRs.sl fs]
    exact Iff.rfl
  | .exc c fs, v => by
    simp only [VR, VRs.sl fs]
    exact Iff.rfl
  | .cell i, v => by simp only [VR]
  | .scr ns, v => by
    simp only [VR]
    exact Iff.rfl
theorem VRs.sl {G : Hp} {ρ : List Addr} : ∀ (ws : List W) (vs : List V), VRs (B.sl x) G ρ ws vs ↔ VRs B G ρ ws vs
  | [], vs => by simp only [VRs]
  | w :: ws, vs => by simp only [VRs, VR.sl w, VRs.sl ws]
end
theorem OR.sl {G : Hp} {ρ : List Addr} {H : Hp} {ob : Ob} {a : Addr} : OR (B.sl x) G ρ H ob a ↔ OR B G ρ H ob a := by
  cases ob with
  | lst xs => simp only [OR, VRs.sl]
  | dct n ks us => simp only [OR, VRs.sl]
  | ins c fs =>
    simp only [OR, VRs.sl]
    exact Iff.rfl
theorem MR.sl {g : Gh} {m : Mem} {H : Hp} : MR (B.sl x) g m H ↔ MR B g m H := ⟨fun M => ⟨M.sub, M.len, fun i ob a e1 e2 => ⟨OR.sl.mp (M.cel i ob a e1 e2).1, (M.cel i ob a e1 e2).2⟩, M.nd⟩, fun M => ⟨M.sub, M.len, fun i ob a e1 e2 => ⟨OR.sl.mpr (M.cel i ob a e1 e2).1, (M.cel i ob a e1 e2).2⟩, M.nd⟩⟩
theorem XR.sl {g : Gh} {H Hs : Hp} {w : W} {c : Value} {d : Option Addr} : XR (B.sl x) g H Hs w c d ↔ XR B g H Hs w c d := by
  cases w with
  | exc c fs =>
    simp only [XR, VRs.sl]
    exact Iff.rfl
  | _ => exact Iff.rfl
theorem RR.sl {g : Gh} {H Hs : Hp} {env : List Sl} {σ : List (Option V)} {r : RV} {v : V} : RR (B.sl x) g env σ H Hs r v ↔ RR B g env σ H Hs r v := by
  cases r with
  | val w => exact VR.sl w v
  | new ob => simp only [RR, OR.sl]
  | own i => exact Iff.rfl
theorem OkG.sl {α β : Type} {g : Gh} {H : Hp} {rel rel' : Gh → Hp → α → β → Prop} {r : Out α} {Q : β → Hp → Prop} {We : Value → Option Addr → Hp → Prop} (k : ∀ g' H' x y, rel' g' H' x y ↔ rel g' H' x y) : OkG (B.sl x) g H rel' r Q We ↔ OkG B g H rel r Q We := by
  cases r with
  | ok y m => simp only [OkG, MR.sl, k]
  | exc y m => simp only [OkG, MR.sl, XR.sl]
  | stuck => exact Iff.rfl
theorem SpF.sl {n f np : Nat} : SpF (B.sl x) n f np = SpF B n f np := by
  funext vs H Q E
  unfold SpF
  simp only [MR.sl, VRs.sl]
  have : ∀ ws m g, OkG (B.sl x) g H (relC (B.sl x) H) ((cfN B.T n).call f ws m) Q E ↔ OkG B g H (relC B H) ((cfN B.T n).call f ws m) Q E := fun ws m g => OkG.sl fun _ _ _ _ => RR.sl
  simp only [Tb.sl] at this ⊢
  simp only [this]
theorem SpI.sl {n c np : Nat} : SpI (B.sl x) n c np = SpI B n c np := by
  funext vs H Q E
  unfold SpI
  simp only [MR.sl, VRs.sl, OR.sl]
  have : ∀ ws m g y H0, OkG (B.sl x) g H0 (relI (B.sl x) y) ((cfN B.T n).new c ws m) Q E ↔ OkG B g H0 (relI B y) ((cfN B.T n).new c ws m) Q E := fun ws m g y H0 => OkG.sl fun _ _ _ _ => by simp only [relI, OR.sl]
  simp only [Tb.sl] at this ⊢
  simp only [this]
theorem Fns.sl {n : Nat} (h : Fns B n) : Fns (B.sl x) n where
  fn := fun f np ns b e => by
    obtain ⟨fd, ps, h1, h2, h3⟩ := (h.fn f np ns b e).ok
    exact ⟨fd, ps, h1, by rw [SpF.sl]; exact h2, h3⟩
  ini := fun c np ns b e => by
    obtain ⟨fd, ps, h1, h2, h3⟩ := (h.ini c np ns b e).ok
    exact ⟨fd, ps, h1, by rw [SpI.sl]; exact h2, h3⟩
theorem Fc.sl (h : Fc B) : Fc (B.sl x) := ⟨h.nog, h.fn, fun k hk => by
    obtain ⟨h1, v, u, h2, h3, h4⟩ := h.glob k hk
    exact ⟨h1, v, u, h2, h3, fun G ρ => (VR.sl _ _).mpr (h4 G ρ)⟩, h.cls, h.fld, h.prp, h.mth, h.nf, h.cnm, h.isi, h.isiG, h.kit, h.kitT, h.dk, h.xf, h.ne, h.sm, h.sp⟩
theorem Fx.sl (h : Fx B) : Fx (B.sl x) := ⟨h.xi, h.xm, h.top⟩
theorem er_startI {N : List Str} {g : Gh} {H H0 : Hp} {ws : List W} {vs : List V} {c : Nat} (h : VRs B g.G g.ρ ws vs) (h1 : OR B g.G g.ρ H (.ins c []) x) (h2 : g.G x = none) (h3 : x ∉ g.ρ) (h4 : H0 x = none) : ER (B.sl x) g (env0 N.length (.own (.ins c []) :: ws.map .val)) (L2.start N (.ref x :: vs)) H H0 := by
  have el : ws.length = vs.length := h.length
  have e0 : (env0 N.length (.own (.ins c []) :: ws.map .val))[0]? = some (.own (.ins c [])) := by
    unfold env0
    rw [List.getElem?_append_left (by simp)]
    rfl
  have s0 : (L2.start N (.ref x :: vs))[0]? = some (some (.ref x)) := by
    unfold L2.start
    rw [List.getElem?_append_left (by simp)]
    rfl
  have pos : ∀ (i : Nat) (sl : Sl), (env0 N.length (.own (.ins c []) :: ws.map .val))[i + 1]? = some sl → sl = .no ∨ ∃ w, sl = .val w ∧ ws[i]? = some w := fun i sl e => by
    unfold env0 at e
    by_cases hi : i < ws.length
    · rw [List.getElem?_append_left (by simpa using hi), List.getElem?_cons_succ, List.getElem?_map] at e
      cases q : ws[i]? with
      | none => rw [q] at e; cases e
      | some w => rw [q] at e; cases e; exact .inr ⟨w, rfl, rfl⟩
    · rw [List.getElem?_append_right (by simpa using hi), List.getElem?_replicate] at e
      split at e <;> cases e
      exact .inl rfl
  have own0 : ∀ (i : Nat) (ob : Ob), (env0 N.length (.own (.ins c []) :: ws.map .val))[i]? = some (.own ob) → i = 0 ∧ ob = .ins c [] := fun i ob e => by
    cases i with
    | zero => rw [e0] at e; cases e; exact ⟨rfl, rfl⟩
    | succ i => rcases pos i _ e with z | ⟨_, z, _⟩ <;> cases z
  refine ⟨?_, fun i w e => ?_, fun i ob e => ?_, fun i j oi oj a e e' _ _ => ?_, fun i c' fs a e e' => ?_⟩
  · unfold env0 L2.start
    simp [el]
  · cases i with
    | zero => rw [e0] at e; cases e
    | succ i =>
      rcases pos i _ e with z | ⟨w', z, hw⟩
      · cases z
      · cases z
        obtain ⟨v, hv, rv⟩ := h.get hw
        refine ⟨v, ?_, (VR.sl _ _).mpr rv⟩
        have hi : i < vs.length := (List.getElem?_eq_some_iff.mp hv).1
        unfold L2.start
        rw [List.getElem?_append_left (by simpa using hi), List.map_cons, List.getElem?_cons_succ, List.getElem?_map, hv]
        rfl
  · obtain ⟨rfl, rfl⟩ := own0 i ob e
    exact ⟨x, s0, h2, h3, OR.sl.mpr h1, h4⟩
  · rw [(own0 i oi e).1, (own0 j oj e').1]
  · obtain ⟨rfl, _⟩ := own0 i _ e
    rw [s0] at e'
    cases e'
    rfl
theorem in_FG {n : Nat} {N ps : List Str} {xn qual : Str} {params : Arguments} {body : List Stmt} {scope : Scope} {dvs : List V} {kws : List (Str × V)} {fd : FuncData} {i np ns : Nat} {b : Ss} (hF : Fns B n) (fc : Fc B) (fx : Fx B) (F : FunD B.K xn qual params body scope dvs kws (B.iA i) fd) (S : FnScope N ps scope)
    (hT : B.T.ini i = some (np, ns, b)) (hnp : ps.length = np) (hns : N.length = ns)
    (ok : okSs B.T b ⟨N, scope, fun _ => true⟩ body = true) : FG B.P B.w B.K B.mg B.base (2 * (n + 1) + 2) (B.iA i) fd ps (SpI B (n + 1) i np) := by
  obtain ⟨oc, od, dV, kV, doc, pm, an, cdv, ct, osl, rfl, lk, hcd, _, _⟩ := F.ex
  refine fn_ofG (k := 2 * n + 3) lk hcd S (fun vs H Q E h => ?_) fun A outer s H vs Q E hr hg h => ?_
  · obtain ⟨g, m, ws, y, H0, vs', rfl, M, hv, hl, _⟩ := h
    rw [List.length_cons, ← hv.length, hl, hnp]
  · obtain ⟨g, m, ws, y, H0, vs', rfl, M, hv, hl, h1, h2, h3, h4, ev, h⟩ := h
    refine ⟨_, okSs_ok (B := B.sl y) b ok (gs_of (B := B.sl y) hF.sl fc.sl fx.sl S hr hg), g, H0, g, g, env0 N.length (.own (.ins i []) :: ws.map .val), m, ⟨ev, Gk.refl⟩, MR.sl.mpr M, er_startI hv h1 h2 h3 h4, ?_⟩
    unfold cfN at h
    dsimp only at h
    rw [hT] at h
    dsimp only at h
    rw [if_pos hl, ← hns] at h
    show SOk (B.sl y) _ g H0 g (evSs B.T (cfN B.T n) b (env0 N.length (.own (.ins i []) :: ws.map .val)) m) _
    generalize evSs B.T (cfN B.T n) b (env0 N.length (.own (.ins i []) :: ws.map .val)) m = r at h
    cases r with
    | next env m =>
      intro g' σ' H' e M' R
      unfold iniOf at h
      dsimp only at h
      split at h
      · rename_i c fs h0
        obtain ⟨a, k1, k2, k3, k4, _⟩ := R.own 0 _ h0
        have ea : a = y := R.slf 0 c fs a h0 k1
        subst ea
        exact h g' .non H' e.e (MR.sl.mp M') ⟨rfl, OR.sl.mp k4, k2, k3⟩
      · exact (h : False).elim
    | brk env m => exact (h : False).elim
    | cont env m => exact (h : False).elim
    | ret rv m => exact (h : False).elim
    | exc w env m => exact fun g' σ' H' cls d e M R q => h g' H' cls d e.e (MR.sl.mp M) (XR.sl.mp q)
    | stuck => exact (h : False).elim
end
end Mi

set_option Elab.async false
set_option linter.all false
set_option maxRecDepth 100000
set_option maxHeartbeats 4000000
/-! Mi36: the program as data. -/
namespace Mi
open PySem PySem.Spec L2
open PyProof.Rows (Fr News envOfC)
/-! ### the program as data -/
/-- where a def's object stands -/
inductive At where
  | glo (x : Str) | meth (c m : Str) | prop (c f : Str)
def At.adr (K : PySem.W.Frag) : At → Addr
  | .glo x => He.ga K x
  | .meth c m => He.ma K (He.ga K c) m
  | .prop c f => match PySem.W.recIn K (He.ma K (He.ga K c) f) "property" with | some (.ref g :: _) => g | _ => 0
structure FnR where
  nm : Str
  at_ : At
  name : Str
  qual : Str
  st : Stmt
  N : List Str
  ps : List Str
  b : Ss
/-- the __init__ of an exception's class -/
structure XcR where
  st : Stmt
  qual : Str
structure ClR where
  nm : Str
  fln : List Str := []
  fld : List (Nat × Nat) := []
  prp : List (Nat × Nat) := []
  mth : List (Nat × Nat) := []
  sub : List Nat := []
  ini : Option FnR := none
  exn : Option XcR := none
structure PgD where
  fns : List FnR
  cls : List ClR
  anm : List Str
  mnm : List Str
  glob : List (Str × W)
  dcts : List (Str × List (Str × W)) := []
  file : Str := Str.empty
def PgD.pg (D : PgD) : Pg where
  fnm f := match D.fns[f]? with | some r => r.nm | none => Str.empty
  cnm c := match D.cls[c]? with | some r => r.nm | none => Str.empty
  anm f := (D.anm[f]?).getD Str.empty
  mnm f := (D.mnm[f]?).getD Str.empty
  gnm k := match D.glob[k]? with | some r => r.1 | none => Str.empty
  fln c := match D.cls[c]? with | some r => r.fln | none => []
  nms f := match D.fns[f]? with | some r => r.N | none => []
  inms f := match D.cls[f]? with | some ⟨_, _, _, _, _, _, some r, _⟩ => r.N | _ => []
  dnm k := match D.dcts[k]? with | some r => r.1 | none => Str.empty
  dct k := match D.dcts[k]? with | some r => r.2 | none => []
  glob k := match D.glob[k]? with | some r => r.2 | none => .non
  fld c f := match D.cls[c]? with | some r => r.fld.lookup f | none => none
  nfl c := match D.cls[c]? with | some r => r.fln.length | none => 0
  prp c f := match D.cls[c]? with | some r => r.prp.lookup f | none => none
  mth c f := match D.cls[c]? with | some r => r.mth.lookup f | none => none
  sub c d := match D.cls[c]? with | some r => r.sub.any (fun e => decide (e = d)) | none => false
  exn c := match D.cls[c]? with | some r => r.exn.isSome | none => false
  fn f := match D.fns[f]? with | some r => some (r.ps.length, r.N.length, r.b) | none => none
  ini c := match D.cls[c]? with | some ⟨_, _, _, _, _, _, some r, _⟩ => some (r.ps.length, r.N.length, r.b) | _ => none
def PgD.inis (D : PgD) : List FnR := D.cls.filterMap (·.ini)

/-! ### the text's part -/
def scopeB (N ps : List Str) (sc : Scope) : Bool := decide (sc.kind = .function) && (!sc.isCoroutine && (!sc.isGenerator && (decide N.Nodup && (decide (N.take ps.length = ps) && (ps.all (fun x => decide (sc.names.lookup x = some .local) || decide (sc.names.lookup x = some .cell)) && sc.names.all (fun y => decide (y.2 ≠ .free)))))))
theorem scopeB_ok {N ps : List Str} {sc : Scope} (h : scopeB N ps sc = true) : FnScope N ps sc := by
  unfold scopeB at h
  simp only [Bool.and_eq_true, decide_eq_true_eq, Bool.not_eq_true', List.all_eq_true, Bool.or_eq_true] at h
  obtain ⟨h1, h2, h3, h4, h5, h6, h7⟩ := h
  exact ⟨h1, h2, h3, h4, h5, h6, h7⟩
def FnR.okT (T : Pg) (r : FnR) : Bool := scopeB r.N r.ps (defScope r.st) && (plainA (defArgs r.st) r.ps && okSs T r.b ⟨r.N, defScope r.st, fun _ => true⟩ (defBody r.st))

/-! ### what the top has left -/
def FnR.val (r : FnR) : He.FnW := some (r.name, r.qual, defArgs r.st, .stmts (defBody r.st), defScope r.st, mainGlobals, [], builtinsNs)
def fnWa (K : PySem.W.Frag) (a : Addr) : He.FnW := match K.lookup a with
  | some ⟨_, _, .func fd, _⟩ => some (fd.name, fd.qualname, fd.params, fd.body, fd.scope, fd.globals, fd.closure, fd.builtins)
  | _ => none
def okFnA (K : PySem.W.Frag) (a : Addr) (qual : Str) : Bool := PySem.W.keepIn K (.ref a) && (match K.lookup a with
  | some ⟨_, _, .func fd, _⟩ => PySem.W.codeIn K fd.code qual && He.dflB K fd.defaults []
  | _ => false)
theorem funA {K : PySem.W.Frag} {a : Addr} {r : FnR} (e : fnWa K a = r.val) (c : okFnA K a r.qual = true) : ∃ fd, FunD K r.name r.qual (defArgs r.st) (defBody r.st) (defScope r.st) [] [] a fd := by
  unfold okFnA at c
  simp only [Bool.and_eq_true] at c
  obtain ⟨kp, c⟩ := c
  unfold fnWa FnR.val at e
  split at c
  case h_2 => cases c
  rename_i oc od fd osl q
  rw [q] at e
  simp only [Bool.and_eq_true] at c
  obtain ⟨m1, m2, m3, m4, m5, m6, m7, m8, m9, m10, m11, m12, m13, m14, m15⟩ := fd
  simp only [Option.some.injEq, Prod.mk.injEq] at e
  obtain ⟨rfl, rfl, z3, z4, z5, rfl, rfl, rfl⟩ := e
  subst z3 z4 z5
  exact ⟨_, ⟨oc, od, m8, m9, m10, m11, m12, m13, m14, osl, rfl, q, c.1, He.dflB_ok c.2, .inl rfl⟩, kp⟩
mutual
/-- a constant's value -/
def okVal (K : PySem.W.Frag) : W → Value → Bool
  | .non, u => (match u with | .none => true | _ => false)
  | .bl b, u => (match u with | .bool c => decide (b = c) | _ => false)
  | .int i, u => (match u with | .int j _ => decide (i = j) | _ => false)
  | .str s, u => (match u with | .str t _ => decide (s = t) | _ => false)
  | .tup ws, u => (match u with
    | .ref a => (match K.lookup a with
      | some ⟨.type c, _, .seq its _, _⟩ => decide (c = "tuple") && (decide (its.size ≤ sizeLine) && okVals K ws its.toList)
      | _ => false)
    | _ => false)
  | .lst _, _ => false
  | .dct _ _ _, _ => false
  | .ins _ _, _ => false
  | .exc _ _, _ => false
  | .cell _, _ => false
  | .scr _, _ => false
def okVals (K : PySem.W.Frag) : List W → List Value → Bool
  | [], us => (match us with | [] => true | _ => false)
  | w :: ws, us => (match us with | u :: us => okVal K w u && okVals K ws us | [] => false)
end
def eqV (a b : Option (Option Value)) : Bool := decide (a = b)
def typesT : List String := ["int", "bool", "str", "list", "tuple", "dict"]
def FnR.okG (K : PySem.W.Frag) (r : FnR) : Bool := decide (r.nm = Str.empty) || (eqV (PySem.W.nsIn K mainGlobals r.nm) (some (some (.ref (r.at_.adr K)))) && (PySem.W.keepIn K (.ref (r.at_.adr K)) && !(r.nm == ("__debug__" : Str))))
def PgD.cA (D : PgD) (K : PySem.W.Frag) (c : Nat) : Addr := He.ga K (D.pg.cnm c)
def PgD.fA (D : PgD) (K : PySem.W.Frag) (f : Nat) : Addr := match D.fns[f]? with | some r => r.at_.adr K | none => 0
def PgD.iA (D : PgD) (K : PySem.W.Frag) (c : Nat) : Addr := He.ma K (D.cA K c) "__init__"
def PgD.tb (D : PgD) (P : Program) (w : World) (K : PySem.W.Frag) (mg : Str → Option Value) (base : Heap) : Tb := ⟨D.pg, P, w, K, mg, base, D.cA K, D.fA K, D.iA K, 0⟩
def okProp (D : PgD) (K : PySem.W.Frag) (C : Addr) (f : Str) (g : Nat) : Bool := eqV (PySem.W.findIn K (.ref C) f) (some (some (.ref (He.ma K C f)))) && (eqV (PySem.W.specialIn K (.ref (He.ma K C f)) "__get__") (some (some (.builtin "property.__get__"))) &&
  (decide (PySem.W.takesIn K (.ref (He.ma K C f)) = some true) && ((match PySem.W.recIn K (He.ma K C f) "property" with | some (.ref a :: _) => decide (a = D.fA K g) | _ => false) && (match D.fns[g]? with | some r => decide (r.ps.length = 1) | none => false))))
def okMeth (D : PgD) (K : PySem.W.Frag) (C : Addr) (r : ClR) (m g : Nat) : Bool := eqV (PySem.W.findIn K (.ref C) (D.pg.mnm m)) (some (some (.ref (D.fA K g)))) && (PySem.W.isFn K (.ref (D.fA K g)) && (PySem.W.keepIn K (.ref (D.fA K g)) && (decide (D.pg.mnm m ∉ r.fln) && (!(decide (m = mAdd) || decide (m = mMul)) || PySem.W.selfFirst K C))))
def okCls (D : PgD) (K : PySem.W.Frag) (r : ClR) : Bool := r.fld.all (fun p => decide (r.fln[p.2]? = some (D.pg.anm p.1))) && ((decide (r.nm = Str.empty) || (eqV (PySem.W.nsIn K mainGlobals r.nm) (some (some (.ref (He.ga K r.nm)))) && (!(r.nm == ("__debug__" : Str)) && ("NoneType" :: typesT).all (fun t => decide (PySem.W.kitOne K (.type t) (.ref (He.ga K r.nm)) = some false))))) &&
  (match r.ini with
    | none => r.prp.isEmpty && r.mth.isEmpty
    | some _ => decide (r.nm ≠ Str.empty) && (PySem.W.plainGet K (He.ga K r.nm) Str.empty && (PySem.W.hasDictIn K (He.ga K r.nm) && (PySem.W.plainOver K (He.ga K r.nm) && (eqV (PySem.W.findIn K (.ref (He.ga K r.nm)) "__setattr__") (some (some (.builtin "object.__setattr__"))) &&
      (PySem.W.makesIn K (He.ga K r.nm) && (eqV (PySem.W.findIn K (.ref (He.ga K r.nm)) "__init__") (some (some (.ref (He.ma K (He.ga K r.nm) "__init__")))) && (PySem.W.isFn K (.ref (He.ma K (He.ga K r.nm) "__init__")) && (PySem.W.keepIn K (.ref (He.ga K r.nm)) &&
      (decide r.fln.Nodup && (decide (r.fln.length < 1000) && (r.fld.all (fun p => eqV (PySem.W.findIn K (.ref (He.ga K r.nm)) (D.pg.anm p.1)) (some none)) && (r.prp.all (fun p => okProp D K (He.ga K r.nm) (D.pg.anm p.1) p.2) && (r.mth.all (fun p => okMeth D K (He.ga K r.nm) r p.1 p.2) &&
      (D.cls.all (fun d => d.ini.isNone || PySem.W.notFirst K (He.ga K r.nm) (.ref (He.ga K d.nm))) &&
      (eqV (PySem.W.findIn K (.ref (He.ga K r.nm)) "__class__") (some (some (.builtin "object.__class__"))) && (decide (PySem.W.mroIn K (He.ga K r.nm) (.type "object") = some true) && (typesT.all (fun t => decide (PySem.W.kitOne K (.ref (He.ga K r.nm)) (.type t) = some false)) &&
      (eqV (PySem.W.findIn K (.ref (He.ga K r.nm)) "__ne__") (some (some (.builtin "object.__ne__"))) && (List.range D.cls.length).all (fun j => decide (D.pg.cnm j = Str.empty) || decide (PySem.W.kitOne K (.ref (He.ga K r.nm)) (.ref (D.cA K j)) = some (r.sub.any (fun e => decide (e = j)))))))))))))))))))))))))
/-! exceptions' classes -/
abbrev FnX : Type := Option (Str × Str × Arguments × FuncBody × Scope × Addr × List Str × Addr)
def fnXa (K : PySem.W.Frag) (a : Addr) : FnX := match K.lookup a with
  | some ⟨_, _, .func fd, _⟩ => some (fd.name, fd.qualname, fd.params, fd.body, fd.scope, fd.globals, fd.closure.map (·.1), fd.builtins)
  | _ => none
def XcR.val (r : XcR) : FnX := some ("__init__", r.qual, defArgs r.st, .stmts (defBody r.st), defScope r.st, mainGlobals, ["__class__"], builtinsNs)
def oexB (K : PySem.W.Frag) (C : Addr) : Bool := match K.lookup C with
  | some ⟨.type "type", _, .cls cd, sl⟩ => (match cd.mro, sl.toList with
    | .ref C' :: bm, [_, _, _, _, some (.builtin n), _] => C' == C && (n == "ValueError.__new__" && (!cd.hasDel && (cd.hasDict && PySem.HandSPX.refsVE bm)))
    | _, _ => false)
  | _ => false
/-- the code, the cell, the defaults of an __init__ -/
def okXf (file : Str) (K : PySem.W.Frag) (C : Addr) (n : Nat) (qual : Str) (fd : FuncData) : Bool := (match fd.code with
    | .ref cda => PySem.W.codeIn K (.ref cda) qual && (match K.lookup cda with
      | some ⟨_, _, .fields vs, _⟩ => (match vs[2]? with | some (Value.str fl _) => (file : Str) == fl | _ => false)
      | _ => false)
    | _ => false) && ((match fd.closure with
    | [(_, cc)] => (match K.lookup cc with | some ⟨_, _, .cell (some (.ref C')), _⟩ => decide (C' = C) | _ => false)
    | _ => false) && (match fd.defaults with
    | .ref T => (match K.lookup T with | some ⟨_, _, .seq its _, _⟩ => decide (its.size ≤ n + 1) | _ => false)
    | _ => false))
def okXt (r : XcR) (fs : List Str) : Bool := plainA (defArgs r.st) (("self" : Str) :: fs) && (decide ((defScope r.st).kind = .function) && (!(defScope r.st).isCoroutine && (!(defScope r.st).isGenerator && ((defScope r.st).names.all (fun x => decide (x.2 ≠ .cell)) &&
  ((("self" : Str) :: fs).all (fun x => decide ((defScope r.st).names.lookup x = some .local) && !(x == ("__debug__" : Str))) && (decide ((defScope r.st).names.lookup ("super" : Str) = some .globalImplicit) && (decide ((defScope r.st).names.lookup ("__class__" : Str) = some .free) && initB fs (defBody r.st))))))))
def okX (D : PgD) (K : PySem.W.Frag) (r : ClR) (x : XcR) : Bool := oexB K (He.ga K r.nm) && (eqV (PySem.W.findIn K (.ref (He.ga K r.nm)) "__setattr__") (some (some (.builtin "object.__setattr__"))) && (decide (PySem.W.typeIn K (.ref (He.ga K r.nm)) = some (.type "type")) && (PySem.W.keepIn K (.ref (He.ga K r.nm)) &&
  (eqV (PySem.W.findIn K (.ref (He.ga K r.nm)) "__init__") (some (some (.ref (He.ma K (He.ga K r.nm) "__init__")))) && (decide (PySem.W.typeIn K (.ref (He.ma K (He.ga K r.nm) "__init__")) = some (.type "function")) &&
  ((match K.lookup (He.ma K (He.ga K r.nm) "__init__") with | some ⟨_, _, .func fd, _⟩ => okXf D.file K (He.ga K r.nm) r.fln.length x.qual fd | _ => false) &&
  (decide (PySem.W.mroIn K (He.ga K r.nm) (.ref (He.ga K r.nm)) = some true) && (eqV (PySem.W.ks_superIn K (He.ga K r.nm) (He.ga K r.nm) "__init__") (some (some (.builtin "ValueError.__init__"))) && (decide (PySem.W.subIn K (.ref (He.ga K r.nm)) (.type "ValueError") = some true) &&
  (eqV (PySem.W.nsIn K cStatics "thirdparty.any") (some none) && (r.fln.all (fun f => eqV (PySem.W.findIn K (.ref (He.ga K r.nm)) f) (some none)) && (xfB K (He.ga K r.nm) && (decide r.fln.Nodup && (decide (r.fln.length ≤ 800) && (decide (r.nm ≠ Str.empty) && (r.ini.isNone && okXt x r.fln))))))))))))))))
/-- a constant that is a dict with text keys -/
def okDct (K : PySem.W.Frag) (r : Str × List (Str × W)) : Bool := !(r.1 == ("__debug__" : Str)) && eqV (PySem.W.nsIn K mainGlobals r.1) (some (some (.ref (He.ga K r.1))))
def PgD.okK (D : PgD) (K : PySem.W.Frag) : Bool := bltNames.all (fun x => eqV (PySem.W.nsIn K mainGlobals x) (some none)) && (D.fns.all (fun r => r.okG K) &&
  (D.glob.all (fun g => decide (g.1 = Str.empty) || (!(g.1 == ("__debug__" : Str)) && (match PySem.W.nsIn K mainGlobals g.1 with | some (some u) => okVal K g.2 u | _ => false))) && (D.cls.all (fun r => okCls D K r) &&
  (eqV (PySem.W.specialIn K (.builtin "object.__class__") "__get__") (some (some (.builtin "getset_descriptor.__get__"))) && (decide (PySem.W.takesIn K (.builtin "object.__class__") = some true) && (decide (D.mnm.take 7 = (["__init__", "__eq__", "__add__", "__mul__", "__le__", "__contains__", "__len__"] : List Str)) && (D.dcts.all (fun r => okDct K r) &&
  ((match K.lookup sysModules with | some o => decide (o.cls = .type "dict") | none => false) && (D.cls.all (fun r => match r.exn with | some x => okX D K r x | none => true) &&
  D.cls.all (fun r => r.exn.isNone || (List.range D.cls.length).all (fun j => (match D.cls[j]? with | some s => s.exn.isNone | none => true) || decide (PySem.W.exmOne K (.ref (He.ga K r.nm)) (.ref (D.cA K j)) = some (r.sub.any (fun e => decide (e = j)))))))))))))))
end Mi

set_option Elab.async false
set_option linter.all false
set_option maxRecDepth 100000
set_option maxHeartbeats 4000000
/-! Mi37: .. the facts. -/
namespace Mi
open PySem PySem.Spec L2
open PyProof.Rows (Fr News envOfC)

theorem eqV_ok {a b : Option (Option Value)} (h : eqV a b = true) : a = b := of_decide_eq_true h
section
variable {D : PgD} {P : Program} {w : World} {K : PySem.W.Frag} {mg : Str → Option Value} {base : Heap} {h : Heap}
mutual
theorem okVal_ok : ∀ (x : W) (u : Value), okVal K x u = true → ∃ v, RelV v u ∧ ∀ G ρ, VR (D.tb P w K mg base) G ρ x v
  | .non, u, c => by
    simp only [okVal] at c
    split at c
    · exact ⟨.non, rfl, fun _ _ => by simp only [VR]⟩
    · cases c
  | .bl b, u, c => by
    simp only [okVal] at c
    split at c
    · cases of_decide_eq_true c
      exact ⟨.bl b, rfl, fun _ _ => by simp only [VR]⟩
    · cases c
  | .int i, u, c => by
    simp only [okVal] at c
    split at c
    · cases of_decide_eq_true c
      exact ⟨.int i, ⟨_, rfl⟩, fun _ _ => by simp only [VR]⟩
    · cases c
  | .str s, u, c => by
    simp only [okVal] at c
    split at c
    · cases of_decide_eq_true c
      exact ⟨.str s, ⟨_, rfl⟩, fun _ _ => by simp only [VR]⟩
    · cases c
  | .tup ws, u, c => by
    simp only [okVal] at c
    split at c
    · rename_i a
      split at c
      · rename_i cn od its nn osl q
        simp only [Bool.and_eq_true, decide_eq_true_eq] at c
        obtain ⟨rfl, c2, c3⟩ := c
        obtain ⟨vs, h1, h2⟩ := okVals_ok ws its.toList c3
        refine ⟨.ref a, rfl, fun G ρ => ?_⟩
        simp only [VR]
        exact ⟨a, vs, rfl, .inr ⟨_, its, nn, q, rfl, rfl, c2, h1⟩, h2 G ρ⟩
      · cases c
    · cases c
  | .lst _, _, c => by simp only [okVal] at c; cases c
  | .dct _ _ _, _, c => by simp only [okVal] at c; cases c
  | .ins _ _, _, c => by simp only [okVal] at c; cases c
  | .exc _ _, _, c => by simp only [okVal] at c; cases c
  | .cell _, _, c => by simp only [okVal] at c; cases c
  | .scr _, _, c => by simp only [okVal] at c; cases c
theorem okVals_ok : ∀ (xs : List W) (us : List Value), okVals K xs us = true → ∃ vs, Vals vs us ∧ ∀ G ρ, VRs (D.tb P w K mg base) G ρ xs vs
  | [], us, c => by
    simp only [okVals] at c
    split at c
    · exact ⟨[], .nil, fun _ _ => VRs.nil⟩
    · cases c
  | x :: xs, us, c => by
    simp only [okVals] at c
    split at c
    · rename_i u us
      simp only [Bool.and_eq_true] at c
      obtain ⟨v, h1, h2⟩ := okVal_ok x u c.1
      obtain ⟨vs, h3, h4⟩ := okVals_ok xs us c.2
      exact ⟨v :: vs, .cons h1 h3, fun G ρ => VRs.cons (h2 G ρ) (h4 G ρ)⟩
    · cases c
end
theorem ini_some {c : Nat} {i : Nat × Nat × Ss} (e : D.pg.ini c = some i) : ∃ r fr, D.cls[c]? = some r ∧ r.ini = some fr ∧ i = (fr.ps.length, fr.N.length, fr.b) ∧ D.pg.cnm c = r.nm ∧ D.pg.fln c = r.fln := by
  unfold PgD.pg at e
  dsimp only at e
  split at e
  · rename_i nm fln fld prp mth sub r exn hr
    cases e
    refine ⟨_, r, hr, rfl, rfl, ?_, ?_⟩
    · unfold PgD.pg; dsimp only; rw [hr]
    · unfold PgD.pg; dsimp only; rw [hr]
  · cases e
theorem mem_get {α : Type} {l : List α} {i : Nat} {x : α} (h : l[i]? = some x) : x ∈ l := List.mem_of_getElem? h
theorem lookup_in : ∀ {l : List (Nat × Nat)} {a b : Nat}, l.lookup a = some b → (a, b) ∈ l
  | [], _, _, h => by cases h
  | (c, d) :: r, a, b, h => by
    rw [List.lookup_cons] at h
    cases q : (a == c) with
    | true =>
      rw [q] at h
      cases h
      rw [beq_iff_eq.mp q]
      exact List.mem_cons_self ..
    | false =>
      rw [q] at h
      exact List.mem_cons_of_mem _ (lookup_in h)
theorem cls_gen {r : ClR} (h : okCls D K r = true) : (∀ p ∈ r.fld, r.fln[p.2]? = some (D.pg.anm p.1)) ∧ (r.nm ≠ Str.empty → PySem.W.nsIn K mainGlobals r.nm = some (some (.ref (He.ga K r.nm))) ∧ (r.nm == ("__debug__" : Str)) = false ∧ ∀ t ∈ "NoneType" :: typesT, PySem.W.kitOne K (.type t) (.ref (He.ga K r.nm)) = some false) ∧ (r.ini = none → r.prp = [] ∧ r.mth = []) := by
  unfold okCls at h
  simp only [Bool.and_eq_true, Bool.or_eq_true, decide_eq_true_eq, List.all_eq_true, Bool.not_eq_true'] at h
  obtain ⟨h1, h2, h3⟩ := h
  refine ⟨h1, fun hn => ?_, fun hn => ?_⟩
  · rcases h2 with z | ⟨z1, z2, z3⟩
    · exact absurd z hn
    · exact ⟨eqV_ok z1, z2, z3⟩
  · rw [hn] at h3
    simp only [Bool.and_eq_true, List.isEmpty_iff] at h3
    exact h3
structure ClF (D : PgD) (K : PySem.W.Frag) (r : ClR) : Prop where
  ne : r.nm ≠ Str.empty
  cl : Cls K (He.ga K r.nm)
  mak : Mk K (He.ga K r.nm) (He.ma K (He.ga K r.nm) "__init__")
  nd : r.fln.Nodup
  ln : r.fln.length < 1000
  no : ∀ p ∈ r.fld, NoAttr K (He.ga K r.nm) (D.pg.anm p.1)
  pr : ∀ p ∈ r.prp, okProp D K (He.ga K r.nm) (D.pg.anm p.1) p.2 = true
  mt : ∀ p ∈ r.mth, okMeth D K (He.ga K r.nm) r p.1 p.2 = true
  nf : ∀ d ∈ D.cls, d.ini ≠ none → PySem.W.notFirst K (He.ga K r.nm) (.ref (He.ga K d.nm)) = true
  i1 : PySem.W.findIn K (.ref (He.ga K r.nm)) "__class__" = some (some (.builtin "object.__class__"))
  i2 : PySem.W.mroIn K (He.ga K r.nm) (.type "object") = some true
  i3 : ∀ t ∈ typesT, PySem.W.kitOne K (.ref (He.ga K r.nm)) (.type t) = some false
  ne2 : PySem.W.findIn K (.ref (He.ga K r.nm)) "__ne__" = some (some (.builtin "object.__ne__"))
  kt : ∀ j, j < D.cls.length → D.pg.cnm j ≠ Str.empty → PySem.W.kitOne K (.ref (He.ga K r.nm)) (.ref (D.cA K j)) = some (r.sub.any (fun e => decide (e = j)))
theorem cls_plain {r : ClR} {fr : FnR} (h : okCls D K r = true) (hi : r.ini = some fr) : ClF D K r := by
  unfold okCls at h
  simp only [hi, Bool.and_eq_true] at h
  obtain ⟨_, _, h⟩ := h
  obtain ⟨a1, a2, a3, a4, a5, a6, a7, a8, a9, b1, b2, b3, b4, b5, b6, b7, b8, b9, c0, c1⟩ := h
  simp only [decide_eq_true_eq, List.all_eq_true] at *
  refine ⟨a1, ⟨a2, a3, a4, eqV_ok a5⟩, ⟨a6, eqV_ok a7, a8, a9⟩, b1, b2, fun p hp => eqV_ok (b3 p hp), b4, b5, fun d hd hn => ?_, eqV_ok b7, b8, b9, eqV_ok c0, fun j hj hn => ?_⟩
  · have := b6 d hd
    simp only [Bool.or_eq_true] at this
    rcases this with z | z
    · exact absurd (Option.isNone_iff_eq_none.mp z) hn
    · exact z
  · have := c1 j (List.mem_range.mpr hj)
    simp only [Bool.or_eq_true, decide_eq_true_eq] at this
    rcases this with z | z
    · exact absurd z hn
    · exact z
theorem cnm_at {c : Nat} (h : D.pg.cnm c ≠ Str.empty) : ∃ r, D.cls[c]? = some r ∧ D.pg.cnm c = r.nm := by
  unfold PgD.pg at h ⊢
  dsimp only at h ⊢
  split at h
  · rename_i r hr
    exact ⟨r, hr, rfl⟩
  · exact absurd rfl h
theorem keys_any {Pm : Params} (z : Str) : ∀ {l : List DictEntry} {ks : List Str}, l.map He.keyOf = He.keysIn Pm ks → l.any (fun e => e.key.isStr z) = ks.any (fun k => decide (k = z)) ∧ l.any (fun e => e.refKey) = false
  | [], [], _ => ⟨rfl, rfl⟩
  | [], _ :: _, h => by cases h
  | _ :: _, [], h => by cases h
  | e :: r, k :: ks, h => by
    have h1 : He.keyOf e :: r.map He.keyOf = some (k, PyData.keyHash Pm k) :: He.keysIn Pm ks := h
    injection h1 with h2 h3
    obtain ⟨i1, i2⟩ := keys_any z h3
    simp only [List.any_cons, i1, i2, Bool.or_false]
    unfold He.keyOf at h2
    split at h2
    · rename_i x t q
      obtain ⟨h5, h6⟩ := Prod.mk.inj (Option.some.inj h2)
      subst h5
      have e1 : e.key.isStr z = decide (x = z) := by
        rw [q]
        show (x == z) = _
        by_cases e : x = z
        · rw [decide_eq_true e]; exact beq_iff_eq.mpr e
        · rw [decide_eq_false e]; exact beq_eq_false_iff_ne.mpr e
      refine ⟨by rw [e1], ?_⟩
      unfold DictEntry.refKey
      rw [q]
    · cases h2
theorem dct_ns {a : Addr} {ks : List Str} (h : He.dicW K a = some (He.keysIn w.params ks)) (z : Str) : ∃ r, PySem.W.nsIn K a z = some r ∧ r.isSome = ks.any (fun k => decide (k = z)) := by
  obtain ⟨es, n, KD⟩ := He.dicW_ok h
  unfold He.dicW at h
  rw [KD.at_] at h
  dsimp only at h
  split at h
  · have hk : es.toList.map He.keyOf = He.keysIn w.params ks := Option.some.inj h
    obtain ⟨k1, k2⟩ := keys_any z hk
    unfold PySem.W.nsIn
    rw [KD.at_]
    dsimp only
    cases e : es.toList.find? (·.key.isStr z) with
    | some x =>
      refine ⟨some x.val, rfl, ?_⟩
      rw [← k1]
      exact (List.any_eq_true.mpr ⟨x, List.mem_of_find?_eq_some e, List.find?_some e⟩).symm
    | none =>
      have e2 : (if es.toList.any (·.refKey) then none else some none : Option (Option Value)) = some none := by rw [k2]; rfl
      refine ⟨none, e2, ?_⟩
      rw [← k1]
      symm
      rw [Option.isSome_none]
      have := List.find?_eq_none.mp e
      exact List.any_eq_false.mpr this
  · cases h
theorem exn_some {c : Nat} (e : D.pg.exn c = true) : ∃ r x, D.cls[c]? = some r ∧ r.exn = some x ∧ D.pg.cnm c = r.nm ∧ D.pg.fln c = r.fln := by
  unfold PgD.pg at e
  dsimp only at e
  split at e
  · rename_i r hr
    obtain ⟨x, hx⟩ := Option.isSome_iff_exists.mp e
    refine ⟨r, x, hr, hx, ?_, ?_⟩
    · unfold PgD.pg; dsimp only; rw [hr]
    · unfold PgD.pg; dsimp only; rw [hr]
  · cases e
structure XcF (D : PgD) (K : PySem.W.Frag) (r : ClR) (x : XcR) : Prop where
  ox : oexB K (He.ga K r.nm) = true
  sa : PySem.W.findIn K (.ref (He.ga K r.nm)) "__setattr__" = some (some (.builtin "object.__setattr__"))
  ty : PySem.W.typeIn K (.ref (He.ga K r.nm)) = some (.type "type")
  kp : PySem.W.keepIn K (.ref (He.ga K r.nm)) = true
  fi : PySem.W.findIn K (.ref (He.ga K r.nm)) "__init__" = some (some (.ref (He.ma K (He.ga K r.nm) "__init__")))
  tf : PySem.W.typeIn K (.ref (He.ma K (He.ga K r.nm) "__init__")) = some (.type "function")
  fd : (match K.lookup (He.ma K (He.ga K r.nm) "__init__") with | some ⟨_, _, .func fd, _⟩ => okXf D.file K (He.ga K r.nm) r.fln.length x.qual fd | _ => false) = true
  mr : PySem.W.mroIn K (He.ga K r.nm) (.ref (He.ga K r.nm)) = some true
  su : PySem.W.ks_superIn K (He.ga K r.nm) (He.ga K r.nm) "__init__" = some (some (.builtin "ValueError.__init__"))
  ve : PySem.W.subIn K (.ref (He.ga K r.nm)) (.type "ValueError") = some true
  st : PySem.W.nsIn K cStatics "thirdparty.any" = some none
  nf : ∀ f ∈ r.fln, PySem.W.findIn K (.ref (He.ga K r.nm)) f = some none
  xf : XfC K (He.ga K r.nm)
  nd : r.fln.Nodup
  ln : r.fln.length ≤ 800
  ne : r.nm ≠ Str.empty
  ni : r.ini = none
  tx : okXt x r.fln = true
theorem okX_F {r : ClR} {x : XcR} (h : okX D K r x = true) : XcF D K r x := by
  unfold okX at h
  simp only [Bool.and_eq_true, decide_eq_true_eq, List.all_eq_true, Option.isNone_iff_eq_none] at h
  obtain ⟨h1, h2, h3, h4, h5, h6, h7, h8, h9, h10, h11, h12, h13, h14, h15, h16, h17, h18⟩ := h
  exact ⟨h1, eqV_ok h2, h3, h4, eqV_ok h5, h6, h7, h8, eqV_ok h9, h10, eqV_ok h11, fun f hf => eqV_ok (h12 f hf), xfB_ok h13, h14, h15, h16, h17, h18⟩
theorem oexB_ok {C : Addr} (h : oexB K C = true) (sa : PySem.W.findIn K (.ref C) "__setattr__" = some (some (.builtin "object.__setattr__"))) (ex : PySem.W.subIn K (.ref C) (.type "BaseException") = some true) (ty : PySem.W.typeIn K (.ref C) = some (.type "type")) (kp : PySem.W.keepIn K (.ref C) = true) : L2.OexC K C := by
  refine ⟨?_, sa, ex, ty, kp⟩
  unfold oexB at h
  split at h
  · rename_i dd cd sl ho
    split at h
    · rename_i C' bm k0 k1 k2 k3 n k5 hm hs
      simp only [Bool.and_eq_true, beq_iff_eq, Bool.not_eq_true'] at h
      obtain ⟨rfl, rfl, hdel, hd, hv⟩ := h
      obtain ⟨nm, bs, mro, ns, qn, hd', sn, sub, ab, col, del⟩ := cd
      dsimp only at hm hdel hd
      subst hm hdel hd
      have hsl : sl = #[k0, k1, k2, k3, some (.builtin "ValueError.__new__"), k5] := by
        obtain ⟨l⟩ := sl
        simp only at hs
        rw [hs]
      subst hsl
      exact ⟨nm, qn, ns, bs, bm, sn, sub, ab, col, dd, k0, k1, k2, k3, k5, ho, hv⟩
    · cases h
  · cases h
theorem ei_of {r : ClR} {x : XcR} (F : XcF D K r x) (hv : fnXa K (He.ma K (He.ga K r.nm) "__init__") = x.val) (hf : P.main.file = D.file) : ExI P K (He.ga K r.nm) (He.ma K (He.ga K r.nm) "__init__") r.fln x.st x.qual := by
  have hx := F.tx
  unfold okXt at hx
  simp only [Bool.and_eq_true, decide_eq_true_eq, List.all_eq_true, Bool.not_eq_true'] at hx
  obtain ⟨t1, t2, t3, t4, t5, t6, t7, t8, t9⟩ := hx
  refine ⟨oexB_ok F.ox F.sa F.xf.exC F.ty F.kp, F.fi, F.tf, ?_, t1, ⟨t2, t3, t4, t5, t6, t7, t8⟩, t9, F.mr, F.su, F.ve, F.st, F.nf⟩
  have c := F.fd
  unfold fnXa XcR.val at hv
  split at c
  case h_2 => cases c
  rename_i oc od fd osl q
  rw [q] at hv
  obtain ⟨m1, m2, m3, m4, m5, m6, m7, m8, m9, m10, m11, m12, m13, m14, m15⟩ := fd
  simp only [Option.some.injEq, Prod.mk.injEq] at hv
  obtain ⟨rfl, rfl, z3, z4, z5, rfl, z7, rfl⟩ := hv
  subst z3 z4 z5
  unfold okXf at c
  simp only [Bool.and_eq_true] at c
  obtain ⟨c1, c2, c3⟩ := c
  split at c1
  case h_2 => cases c1
  rename_i cda
  simp only [Bool.and_eq_true] at c1
  obtain ⟨c11, c12⟩ := c1
  split at c12
  case h_2 => cases c12
  rename_i ccl cdd vs ccs hcd
  split at c12
  case h_2 => cases c12
  rename_i fl tf hvs
  split at c2
  case h_2 => cases c2
  rename_i cnm cc
  split at c2
  case h_2 => cases c2
  rename_i cl cld C' csl hcc
  have eC := of_decide_eq_true c2
  subst eC
  split at c3
  case h_2 => cases c3
  rename_i T
  split at c3
  case h_2 => cases c3
  rename_i tc tdd its tn tsl hTl
  simp only [List.map_cons, List.map_nil, List.cons.injEq, and_true] at z7
  subst z7
  exact ⟨oc, _, _, _, _, _, _, cl, od, _, cdd, cld, osl, ccs, csl, cda, cc, vs, fl, tf, q, c11, hcd, hvs, by rw [hf]; exact c12, hcc, T, _, its, tn, rfl, hTl, rfl, of_decide_eq_true c3⟩
theorem fx_of (X : K.In h) (G : h.Ns mainGlobals mg) (c : D.okK K = true) (hv : ∀ r ∈ D.cls, ∀ x, r.exn = some x → fnXa K (He.ma K (He.ga K r.nm) "__init__") = x.val) (hf : P.main.file = D.file) (ht : (P.main.scope.names.lookup ("super" : Str)).isSome = false) : Fx (D.tb P w K mg base) := by
  unfold PgD.okK at c
  simp only [Bool.and_eq_true] at c
  obtain ⟨c1, c2, c3, c4, c5, c6, c7, c8, csm, c9, c10⟩ := c
  have hk : ∀ c r x, D.cls[c]? = some r → r.exn = some x → XcF D K r x := fun c r x e hx => by
    have := List.all_eq_true.mp c9 r (mem_get e)
    rw [hx] at this
    exact okX_F this
  have ca : ∀ (c : Nat) (r : ClR), D.pg.cnm c = r.nm → D.cA K c = He.ga K r.nm := fun c r e => by unfold PgD.cA; rw [e]
  refine ⟨fun c e => ?_, fun c d e1 e2 => ?_, ht⟩
  · obtain ⟨r, x, hr, hx, en, el⟩ := exn_some (show D.pg.exn c = true from e)
    have F := hk c r x hr hx
    have Gn := (cls_gen (List.all_eq_true.mp c4 r (mem_get hr))).2.1 F.ne
    show (∃ f st qual, ExI P K (D.cA K c) f (D.pg.fln c) st qual) ∧ mg (D.pg.cnm c) = some (.ref (D.cA K c)) ∧ (D.pg.cnm c == ("__debug__" : Str)) = false ∧ (D.pg.fln c).length ≤ 800
    rw [ca c r en, en, el]
    exact ⟨⟨_, _, _, ei_of F (hv r (mem_get hr) x hx) hf⟩, PySem.W.mg_of X G Gn.1, Gn.2.1, F.ln⟩
  · obtain ⟨r, x, hr, hx, en, el⟩ := exn_some (show D.pg.exn c = true from e1)
    obtain ⟨s, y, hs, hy, es, _⟩ := exn_some (show D.pg.exn d = true from e2)
    have := List.all_eq_true.mp c10 r (mem_get hr)
    rw [hx] at this
    simp only [Option.isNone_some, Bool.false_or, List.all_eq_true, Bool.or_eq_true, decide_eq_true_eq] at this
    have z := this d (List.mem_range.mpr (List.getElem?_eq_some_iff.mp hs).1)
    rw [hs] at z
    simp only [hy, Option.isNone_some, Bool.false_eq_true, false_or] at z
    show PySem.W.exmOne K (.ref (D.cA K c)) (.ref (D.cA K d)) = some (D.pg.sub c d)
    have esub : D.pg.sub c d = r.sub.any (fun e => decide (e = d)) := by unfold PgD.pg; dsimp only; rw [hr]
    rw [ca c r en, esub]
    exact z
theorem fc_of (X : K.In h) (G : h.Ns mainGlobals mg) (c : D.okK K = true) (hd : ∀ r ∈ D.dcts, He.dicW K (He.ga K r.1) = some (He.keysIn w.params (r.2.map (·.1)))) : Fc (D.tb P w K mg base) := by
  unfold PgD.okK at c
  simp only [Bool.and_eq_true] at c
  obtain ⟨c1, c2, c3, c4, c5, c6, c7, c8, csm, c9, c10⟩ := c
  have hk : ∀ c r, D.cls[c]? = some r → okCls D K r = true := fun c r e => List.all_eq_true.mp c4 r (mem_get e)
  have ca : ∀ (c : Nat) (r : ClR), D.pg.cnm c = r.nm → D.cA K c = He.ga K r.nm := fun c r e => by unfold PgD.cA; rw [e]
  refine ⟨fun x hx => PySem.W.mg_none_of X G (eqV_ok (List.all_eq_true.mp c1 x hx)), fun f np ns b e hne => ?_, fun k hne => ?_, fun c np ns b e => ?_, fun c f k e => ?_, fun c f g e => ?_, fun c m g e => ?_, fun c d i j e1 e2 => ?_, fun d hne => ?_, fun c i e => ?_, ⟨eqV_ok c5, of_decide_eq_true c6⟩, fun c d i e hne => ?_, fun d hne t ht => ?_, fun k hne => ?_, fun c f k hx e => ?_, fun c i e => ?_, ?_, ?_⟩
  · -- a def
    show mg (D.pg.fnm f) = some (.ref (D.fA K f)) ∧ _
    have e' : D.pg.fn f = some (np, ns, b) := e
    have hne' : D.pg.fnm f ≠ Str.empty := hne
    have e0 := e'
    unfold PgD.pg at e0
    dsimp only at e0
    split at e0
    case h_2 => cases e0
    rename_i r hr
    have en : D.pg.fnm f = r.nm := by unfold PgD.pg; dsimp only; rw [hr]
    have ea : D.fA K f = r.at_.adr K := by unfold PgD.fA; rw [hr]
    rw [en] at hne'
    have hg := List.all_eq_true.mp c2 r (mem_get hr)
    unfold FnR.okG at hg
    simp only [Bool.or_eq_true, Bool.and_eq_true, decide_eq_true_eq, Bool.not_eq_true'] at hg
    rcases hg with z | ⟨z1, z2, z3⟩
    · exact absurd z hne'
    · refine ⟨by rw [en, ea]; exact PySem.W.mg_of X G (eqV_ok z1), ?_, ?_⟩
      · show PySem.W.keepIn K (.ref (D.fA K f)) = true
        rw [ea]
        exact z2
      · show (D.pg.fnm f == ("__debug__" : Str)) = false
        rw [en]
        exact z3
  · -- a constant
    have hne' : D.pg.gnm k ≠ Str.empty := hne
    show (D.pg.gnm k == ("__debug__" : Str)) = false ∧ ∃ v u, mg (D.pg.gnm k) = some u ∧ RelV v u ∧ ∀ G ρ, VR (D.tb P w K mg base) G ρ (D.pg.glob k) v
    have e0 := hne'
    unfold PgD.pg at e0
    dsimp only at e0
    split at e0
    case h_2 => exact absurd rfl e0
    rename_i r hr
    have en : D.pg.gnm k = r.1 := by unfold PgD.pg; dsimp only; rw [hr]
    have ev : D.pg.glob k = r.2 := by unfold PgD.pg; dsimp only; rw [hr]
    have hg := List.all_eq_true.mp c3 r (mem_get hr)
    simp only [Bool.or_eq_true, Bool.and_eq_true, decide_eq_true_eq, Bool.not_eq_true'] at hg
    rw [en, ev]
    rcases hg with z | ⟨z1, z2⟩
    · exact absurd z e0
    · split at z2
      · rename_i u hu
        obtain ⟨v, h1, h2⟩ := okVal_ok (D := D) (P := P) (w := w) (mg := mg) (base := base) r.2 u z2
        exact ⟨z1, v, u, PySem.W.mg_of X G hu, h1, h2⟩
      · cases z2
  · -- a class
    obtain ⟨r, fr, hr, hi, _, en, el⟩ := ini_some (show D.pg.ini c = some (np, ns, b) from e)
    have F := cls_plain (hk c r hr) hi
    have Gn := cls_gen (hk c r hr)
    obtain ⟨z1, z2, z3⟩ := Gn.2.1 F.ne
    show Cls K (D.cA K c) ∧ Mk K (D.cA K c) (D.iA K c) ∧ mg (D.pg.cnm c) = some (.ref (D.cA K c)) ∧ (D.pg.cnm c == ("__debug__" : Str)) = false ∧ (D.pg.fln c).Nodup ∧ (D.pg.fln c).length < 1000
    unfold PgD.iA
    rw [ca c r en, en, el]
    exact ⟨F.cl, F.mak, PySem.W.mg_of X G z1, z2, F.nd, F.ln⟩
  · -- a field
    have e' : D.pg.fld c f = some k := e
    have e0 := e'
    unfold PgD.pg at e0
    dsimp only at e0
    split at e0
    case h_2 => cases e0
    rename_i r hr
    have el : D.pg.fln c = r.fln := by unfold PgD.pg; dsimp only; rw [hr]
    have Gn := cls_gen (hk c r hr)
    have hm := lookup_in e0
    show (D.pg.fln c)[k]? = some (D.pg.anm f) ∧ ((∃ i, D.pg.ini c = some i) → NoAttr K (D.cA K c) (D.pg.anm f))
    refine ⟨by rw [el]; exact Gn.1 _ hm, fun ⟨i, hi⟩ => ?_⟩
    obtain ⟨r', fr, hr', hi', _, en, _⟩ := ini_some hi
    rw [hr] at hr'
    cases hr'
    rw [ca c r en]
    exact (cls_plain (hk c r hr) hi').no _ hm
  · -- a property
    have e' : D.pg.prp c f = some g := e
    have e0 := e'
    unfold PgD.pg at e0
    dsimp only at e0
    split at e0
    case h_2 => cases e0
    rename_i r hr
    have hm := lookup_in e0
    have en : D.pg.cnm c = r.nm := by unfold PgD.pg; dsimp only; rw [hr]
    have Gn := cls_gen (hk c r hr)
    cases hi : r.ini with
    | none =>
      rw [(Gn.2.2 hi).1] at hm
      cases hm
    | some fr =>
      have hp := (cls_plain (hk c r hr) hi).pr _ hm
      unfold okProp at hp
      simp only [Bool.and_eq_true, decide_eq_true_eq] at hp
      obtain ⟨p1, p2, p3, p4, p5⟩ := hp
      split at p4
      case h_2 => cases p4
      rename_i a rest hrec
      have ea := of_decide_eq_true p4
      split at p5
      case h_2 => cases p5
      rename_i rg hrg
      refine ⟨⟨He.ma K (He.ga K r.nm) (D.pg.anm f), ?_⟩, ?_, ?_⟩
      · show PropOf K (D.cA K c) (D.pg.anm f) _ (D.fA K g)
        rw [ca c r en, ← ea]
        exact ⟨eqV_ok p1, eqV_ok p2, p3, rest, hrec⟩
      · refine ⟨(fr.ps.length, fr.N.length, fr.b), ?_⟩
        show D.pg.ini c = _
        obtain ⟨q1, q2, q3, q4, q5, q6, q7, q8⟩ := r
        dsimp only at hi
        subst hi
        unfold PgD.pg
        dsimp only
        rw [hr]
      · refine ⟨rg.N.length, rg.b, ?_⟩
        show D.pg.fn g = _
        unfold PgD.pg
        dsimp only
        rw [hrg, ← of_decide_eq_true p5]
  · -- a method
    have e' : D.pg.mth c m = some g := e
    have e0 := e'
    unfold PgD.pg at e0
    dsimp only at e0
    split at e0
    case h_2 => cases e0
    rename_i r hr
    have hm := lookup_in e0
    have en : D.pg.cnm c = r.nm := by unfold PgD.pg; dsimp only; rw [hr]
    have el : D.pg.fln c = r.fln := by unfold PgD.pg; dsimp only; rw [hr]
    have Gn := cls_gen (hk c r hr)
    cases hi : r.ini with
    | none =>
      rw [(Gn.2.2 hi).2] at hm
      cases hm
    | some fr =>
      have hp := (cls_plain (hk c r hr) hi).mt _ hm
      unfold okMeth at hp
      simp only [Bool.and_eq_true, Bool.or_eq_true, decide_eq_true_eq, Bool.not_eq_true'] at hp
      obtain ⟨p1, p2, p3, p4, p5⟩ := hp
      refine ⟨?_, ⟨(fr.ps.length, fr.N.length, fr.b), ?_⟩, ?_, fun hmm => ?_⟩
      · show Meth K (D.cA K c) (D.pg.mnm m) (D.fA K g)
        rw [ca c r en]
        exact ⟨eqV_ok p1, p2, p3⟩
      · show D.pg.ini c = _
        obtain ⟨q1, q2, q3, q4, q5, q6, q7, q8⟩ := r
        dsimp only at hi
        subst hi
        unfold PgD.pg
        dsimp only
        rw [hr]
      · show D.pg.mnm m ∉ D.pg.fln c
        rw [el]
        exact p4
      · show PySem.W.selfFirst K (D.cA K c) = true
        rw [ca c r en]
        rcases p5 with z | z
        · rcases hmm with k | k
          · rw [k] at z; simp at z
          · rw [k] at z; simp at z
        · exact z
  · obtain ⟨r, fr, hr, hi, _, en, _⟩ := ini_some (show D.pg.ini c = some i from e1)
    obtain ⟨r2, fr2, hr2, hi2, _, en2, _⟩ := ini_some (show D.pg.ini d = some j from e2)
    show PySem.W.notFirst K (D.cA K c) (.ref (D.cA K d)) = true
    rw [ca c r en, ca d r2 en2]
    exact (cls_plain (hk c r hr) hi).nf r2 (mem_get hr2) (by rw [hi2]; simp)
  · obtain ⟨r, hr, en⟩ := cnm_at (show D.pg.cnm d ≠ Str.empty from hne)
    have hne' : D.pg.cnm d ≠ Str.empty := hne
    rw [en] at hne'
    obtain ⟨z1, z2, _⟩ := (cls_gen (hk d r hr)).2.1 hne'
    show mg (D.pg.cnm d) = some (.ref (D.cA K d)) ∧ (D.pg.cnm d == ("__debug__" : Str)) = false
    rw [ca d r en, en]
    exact ⟨PySem.W.mg_of X G z1, z2⟩
  · obtain ⟨r, fr, hr, hi, _, en, _⟩ := ini_some (show D.pg.ini c = some i from e)
    have F := cls_plain (hk c r hr) hi
    show PySem.W.findIn K (.ref (D.cA K c)) "__class__" = some (some (.builtin "object.__class__")) ∧ PySem.W.mroIn K (D.cA K c) (.type "object") = some true ∧ ∀ t ∈ ["int", "bool", "str", "list", "tuple", "dict"], PySem.W.kitOne K (.ref (D.cA K c)) (.type t) = some false
    rw [ca c r en]
    exact ⟨F.i1, F.i2, F.i3⟩
  · obtain ⟨r, fr, hr, hi, _, en, _⟩ := ini_some (show D.pg.ini c = some i from e)
    obtain ⟨r2, hr2, en2⟩ := cnm_at (show D.pg.cnm d ≠ Str.empty from hne)
    have F := cls_plain (hk c r hr) hi
    show PySem.W.kitOne K (.ref (D.cA K c)) (.ref (D.cA K d)) = some (D.pg.sub c d)
    have es : D.pg.sub c d = r.sub.any (fun e => decide (e = d)) := by unfold PgD.pg; dsimp only; rw [hr]
    rw [ca c r en, es]
    exact F.kt d (List.getElem?_eq_some_iff.mp hr2).1 hne
  · obtain ⟨r, hr, en⟩ := cnm_at (show D.pg.cnm d ≠ Str.empty from hne)
    have hne' : D.pg.cnm d ≠ Str.empty := hne
    rw [en] at hne'
    obtain ⟨_, _, z3⟩ := (cls_gen (hk d r hr)).2.1 hne'
    show PySem.W.kitOne K (.type t) (.ref (D.cA K d)) = some false
    rw [ca d r en]
    exact z3 t ht
  · -- a constant that is a dict
    have hne' : D.pg.dnm k ≠ Str.empty := hne
    show (D.pg.dnm k == ("__debug__" : Str)) = false ∧ ∃ a es i, mg (D.pg.dnm k) = some (.ref a) ∧ KDict K w a es i ∧ ∀ z, ∃ r, PySem.W.nsIn K a z = some r ∧ r.isSome = (D.pg.dct k).any (fun p => decide (p.1 = z))
    have e0 := hne'
    unfold PgD.pg at e0
    dsimp only at e0
    split at e0
    case h_2 => exact absurd rfl e0
    rename_i r hr
    have en : D.pg.dnm k = r.1 := by unfold PgD.pg; dsimp only; rw [hr]
    have ev : D.pg.dct k = r.2 := by unfold PgD.pg; dsimp only; rw [hr]
    have g := List.all_eq_true.mp c8 r (mem_get hr)
    unfold okDct at g
    simp only [Bool.and_eq_true, Bool.not_eq_true'] at g
    have hdd := hd r (mem_get hr)
    obtain ⟨es, i, KD⟩ := He.dicW_ok hdd
    rw [en, ev]
    refine ⟨g.1, _, es, i, PySem.W.mg_of X G (eqV_ok g.2), KD, fun z => ?_⟩
    obtain ⟨o, h1, h2⟩ := dct_ns hdd z
    refine ⟨o, h1, h2.trans ?_⟩
    rw [List.any_map]
    rfl
  · obtain ⟨r, x, hr, hx', en, el⟩ := exn_some (show D.pg.exn c = true from hx)
    have F : XcF D K r x := by
      have := List.all_eq_true.mp c9 r (mem_get hr)
      rw [hx'] at this
      exact okX_F this
    have e' : D.pg.fld c f = some k := e
    have e0 := e'
    unfold PgD.pg at e0
    dsimp only at e0
    rw [hr] at e0
    have hm := lookup_in e0
    have g1 := (cls_gen (hk c r hr)).1 _ hm
    show XfC K (D.cA K c) ∧ PySem.W.findIn K (.ref (D.cA K c)) (D.pg.anm f) = some none ∧ (D.pg.fln c)[k]? = some (D.pg.anm f) ∧ (D.pg.fln c).Nodup
    rw [ca c r en, el]
    exact ⟨F.xf, F.nf _ (List.mem_of_getElem? g1), g1, F.nd⟩
  · obtain ⟨r, fr, hr, hi, _, en, _⟩ := ini_some (show D.pg.ini c = some i from e)
    have F := cls_plain (hk c r hr) hi
    show D.pg.cnm c ≠ Str.empty ∧ PySem.W.findIn K (.ref (D.cA K c)) "__ne__" = some (some (.builtin "object.__ne__"))
    rw [ca c r en, en]
    exact ⟨F.ne, F.ne2⟩
  · show SmK K
    split at csm
    · rename_i o ho
      exact ⟨o, ho, of_decide_eq_true csm⟩
    · cases csm
  · have z := of_decide_eq_true c7
    have get : ∀ i x, i < 7 → (["__init__", "__eq__", "__add__", "__mul__", "__le__", "__contains__", "__len__"] : List Str)[i]? = some x → D.pg.mnm i = x := fun i x hi hx => by
      rw [← z, List.getElem?_take] at hx
      rw [if_pos hi] at hx
      show (D.mnm[i]?).getD Str.empty = x
      rw [hx]
      rfl
    exact ⟨get 1 _ (by decide) rfl, get 2 _ (by decide) rfl, get 3 _ (by decide) rfl, get 4 _ (by decide) rfl, get 5 _ (by decide) rfl, get 6 _ (by decide) rfl⟩
end
end Mi

set_option Elab.async false
set_option linter.all false
set_option maxRecDepth 100000
set_option maxHeartbeats 4000000
/-! Mi38: all defs keep their promises; the law's end. -/
namespace Mi
open PySem PySem.Spec L2
open PyProof.Rows (Fr News envOfC)

/-! ### the hook -/
def PgD.all (D : PgD) : List FnR := D.fns ++ D.inis
abbrev AlM : Type := Bool × List He.FnW × List (Option (List (Option (Str × Int)))) × List FnX
def PgD.exs (D : PgD) : List (ClR × XcR) := D.cls.filterMap fun r => r.exn.map fun x => (r, x)
def obsM (D : PgD) (K : PySem.W.Frag) : AlM := (D.okK K && D.all.all (fun r => okFnA K (r.at_.adr K) r.qual), D.all.map (fun r => fnWa K (r.at_.adr K)), D.dcts.map fun r => He.dicW K (He.ga K r.1), D.exs.map fun p => fnXa K (He.ma K (He.ga K p.1.nm) "__init__"))
def valM (D : PgD) (w : World) : AlM := (true, D.all.map FnR.val, D.dcts.map fun r => some (He.keysIn w.params (r.2.map (·.1))), D.exs.map fun p => p.2.val)
/-- what an object names, as far as the facts look -/
def refsM (o : Obj) : List Addr := match o.data with
  | .seq its _ => its.toList.flatMap He.refV
  | .dict es _ => es.toList.flatMap fun e => He.refV e.val
  | .func fd => He.refV fd.code ++ (He.refV fd.defaults ++ fd.closure.map (·.2))
  | .cls cd => cd.ns :: cd.mro.flatMap He.refV
  | .fields vs => (match o.cls with | .type t => bif t == "property" then vs.toList.flatMap He.refV else [] | _ => [])
  | _ => []
/-- those not met yet; the met ones stand as bits of m -/
def addNew : List Addr → Nat → List Addr → Nat × List Addr
  | [], m, acc => (m, acc)
  | a :: as, m, acc => bif Nat.testBit m a then addNew as m acc else addNew as (m ||| (1 <<< a)) (a :: acc)
def bfsM (g : Addr → Option Obj) : Nat → Nat → List Addr → List Addr
  | 0, _, front => front
  | n + 1, m, front => match addNew (front.flatMap fun a => match g a with | some o => refsM o | none => []) m [] with
    | (m', new) => front ++ bfsM g n m' new
def asM (g : Addr → Option Obj) (n : Nat) : List Addr := bfsM g n (1 <<< mainGlobals) [mainGlobals] ++ [cStatics, sysModules]
def obsMG (n : Nat) (D : PgD) (g : Addr → Option Obj) : AlM := obsM D (He.frG g (asM g n))
def hookM (n : Nat) (D : PgD) : PySem.W.Hook where
  α := AlM
  obs := fun s => obsMG n D s.heap.get?
  val := fun w => valM D w
  says := fun w h => ∃ K : PySem.W.Frag, K.In h ∧ obsM D K = valM D w
  of := fun _ _ e => ⟨_, He.frG_in, e⟩
  keeps := fun _ _ _ ⟨K, hK, c⟩ k => ⟨K, PySem.W.Frag.In.keeps hK k, c⟩
theorem obsMG_eq {n : Nat} {D : PgD} {g : Addr → Option Obj} {s : Shared} (h : ∀ a, g a = s.heap.get? a) : obsMG n D g = (hookM n D).obs s := by
  have e : g = s.heap.get? := funext h
  rw [e]
  rfl
section
variable {D : PgD} {P : Program} {w : World} {K : PySem.W.Frag} {mg : Str → Option Value} {base : Heap} {h : Heap}
theorem obsM_at (c : obsM D K = valM D w) {r : FnR} (hr : r ∈ D.all) : ∃ fd, FunD K r.name r.qual (defArgs r.st) (defBody r.st) (defScope r.st) [] [] (r.at_.adr K) fd := by
  have c1 : (D.okK K && D.all.all (fun r => okFnA K (r.at_.adr K) r.qual)) = true := congrArg Prod.fst c
  have c2 : D.all.map (fun r => fnWa K (r.at_.adr K)) = D.all.map FnR.val := congrArg (fun z : AlM => z.2.1) c
  simp only [Bool.and_eq_true, List.all_eq_true] at c1
  obtain ⟨i, hi⟩ := List.mem_iff_getElem?.mp hr
  have c3 : (D.all.map (fun r => fnWa K (r.at_.adr K)))[i]? = (D.all.map FnR.val)[i]? := by rw [c2]
  rw [List.getElem?_map, List.getElem?_map, hi] at c3
  exact funA (Option.some.inj c3) (c1.2 r hr)
theorem obsM_d (c : obsM D K = valM D w) : ∀ r ∈ D.dcts, He.dicW K (He.ga K r.1) = some (He.keysIn w.params (r.2.map (·.1))) := fun r hr => by
  have c2 : D.dcts.map (fun r => He.dicW K (He.ga K r.1)) = D.dcts.map fun r => some (He.keysIn w.params (r.2.map (·.1))) := congrArg (fun z : AlM => z.2.2.1) c
  obtain ⟨i, hi⟩ := List.mem_iff_getElem?.mp hr
  have c3 : (D.dcts.map (fun r => He.dicW K (He.ga K r.1)))[i]? = (D.dcts.map fun r => some (He.keysIn w.params (r.2.map (·.1))))[i]? := by rw [c2]
  rw [List.getElem?_map, List.getElem?_map, hi] at c3
  exact Option.some.inj c3
theorem obsM_x (c : obsM D K = valM D w) : ∀ r ∈ D.cls, ∀ x, r.exn = some x → fnXa K (He.ma K (He.ga K r.nm) "__init__") = x.val := fun r hr x hx => by
  have c2 : (D.exs.map fun p => fnXa K (He.ma K (He.ga K p.1.nm) "__init__")) = D.exs.map fun p => p.2.val := congrArg (fun z : AlM => z.2.2.2) c
  have hm : (r, x) ∈ D.exs := List.mem_filterMap.mpr ⟨r, hr, by rw [hx]; rfl⟩
  obtain ⟨i, hi⟩ := List.mem_iff_getElem?.mp hm
  have c3 : (D.exs.map fun p => fnXa K (He.ma K (He.ga K p.1.nm) "__init__"))[i]? = (D.exs.map fun p => p.2.val)[i]? := by rw [c2]
  rw [List.getElem?_map, List.getElem?_map, hi] at c3
  exact Option.some.inj c3
/-- each class's __init__ stands where it is looked for -/
def PgD.okI (D : PgD) : Bool := D.cls.all fun r => match r.ini with
  | some fr => (match fr.at_ with | .meth c m => decide (c = r.nm) && decide (m = "__init__") | _ => false)
  | none => true
theorem binds_of {r : FnR} {a : Addr} {fd : FuncData} (F : FunD K r.name r.qual (defArgs r.st) (defBody r.st) (defScope r.st) [] [] a fd) (hp : plainA (defArgs r.st) r.ps = true) : Binds K fd r.ps [] := by
  unfold plainA at hp
  simp only [Bool.and_eq_true, decide_eq_true_eq, List.isEmpty_iff, Bool.not_eq_true'] at hp
  obtain ⟨p1, p2, p3, p4, p5, p6⟩ := hp
  exact F.bindsN fun kV doc pm an cdv ct us hl => bind_plain p1 p2 p3 p4 p5 p6 hl
theorem fg_zero {k : Nat} {a : Addr} {fd : FuncData} {ps : List Str} {sp : Sp} (h : ∀ vs H Q E, sp vs H Q E → False) : FG P w K mg base k a fd ps sp := ⟨fun vs H Q E q => (h vs H Q E q).elim, fun A outer s H args us vs Q E _ _ _ _ _ q => (h vs H Q E q).elim⟩
theorem fns_of (c : obsM D K = valM D w) (fc : Fc (D.tb P w K mg base)) (fx : Fx (D.tb P w K mg base)) (ht : D.all.all (fun r => r.okT D.pg) = true) (hI : D.okI = true) : ∀ n, Fns (D.tb P w K mg base) n := by
  have hT : ∀ r ∈ D.all, scopeB r.N r.ps (defScope r.st) = true ∧ plainA (defArgs r.st) r.ps = true ∧ okSs D.pg r.b ⟨r.N, defScope r.st, fun _ => true⟩ (defBody r.st) = true := fun r hr => by
    have := List.all_eq_true.mp ht r hr
    unfold FnR.okT at this
    simp only [Bool.and_eq_true] at this
    exact this
  have fnr : ∀ f np ns b, D.pg.fn f = some (np, ns, b) → ∃ r ∈ D.all, D.fA K f = r.at_.adr K ∧ np = r.ps.length ∧ ns = r.N.length ∧ b = r.b := fun f np ns b e => by
    unfold PgD.pg at e
    dsimp only at e
    split at e
    · rename_i r hr
      cases e
      exact ⟨r, List.mem_append_left _ (mem_get hr), by unfold PgD.fA; rw [hr], rfl, rfl, rfl⟩
    · cases e
  have inr : ∀ f np ns b, D.pg.ini f = some (np, ns, b) → ∃ r ∈ D.all, D.iA K f = r.at_.adr K ∧ np = r.ps.length ∧ ns = r.N.length ∧ b = r.b := fun f np ns b e => by
    obtain ⟨r, fr, hr, hi, ee, en, _⟩ := ini_some e
    cases ee
    refine ⟨fr, List.mem_append_right _ (List.mem_filterMap.mpr ⟨r, mem_get hr, hi⟩), ?_, rfl, rfl, rfl⟩
    have z := List.all_eq_true.mp hI r (mem_get hr)
    rw [hi] at z
    dsimp only at z
    split at z
    · rename_i cn m ha
      simp only [Bool.and_eq_true, decide_eq_true_eq] at z
      obtain ⟨rfl, rfl⟩ := z
      rw [ha]
      unfold PgD.iA PgD.cA
      rw [en]
      rfl
    · cases z
  intro n
  induction n with
  | zero =>
    refine ⟨fun f np ns b e => ?_, fun f np ns b e => ?_⟩
    · obtain ⟨r, hr, ha, rfl, rfl, rfl⟩ := fnr f np ns b e
      obtain ⟨fd, F⟩ := obsM_at c hr
      obtain ⟨t1, t2, t3⟩ := hT r hr
      refine ⟨fd, r.ps, rfl, fg_zero fun vs H Q E q => ?_, binds_of F t2⟩
      obtain ⟨g, m, ws, _, _, _, q⟩ := q
      exact q
    · obtain ⟨r, hr, ha, rfl, rfl, rfl⟩ := inr f np ns b e
      obtain ⟨fd, F⟩ := obsM_at c hr
      obtain ⟨t1, t2, t3⟩ := hT r hr
      refine ⟨fd, r.ps, rfl, fg_zero fun vs H Q E q => ?_, binds_of F t2⟩
      obtain ⟨g, m, ws, _, _, _, _, _, _, _, _, _, _, _, _, q⟩ := q
      exact q
  | succ n ih =>
    refine ⟨fun f np ns b e => ?_, fun f np ns b e => ?_⟩
    · obtain ⟨r, hr, ha, rfl, rfl, rfl⟩ := fnr f np ns b e
      obtain ⟨fd, F⟩ := obsM_at c hr
      obtain ⟨t1, t2, t3⟩ := hT r hr
      rw [← ha] at F
      exact ⟨fd, r.ps, rfl, fn_FG ih fc fx F (scopeB_ok t1) e rfl rfl t3, binds_of F t2⟩
    · obtain ⟨r, hr, ha, rfl, rfl, rfl⟩ := inr f np ns b e
      obtain ⟨fd, F⟩ := obsM_at c hr
      obtain ⟨t1, t2, t3⟩ := hT r hr
      rw [← ha] at F
      exact ⟨fd, r.ps, rfl, in_FG ih fc fx F (scopeB_ok t1) e rfl rfl t3, binds_of F t2⟩
end
end Mi

set_option Elab.async false
set_option linter.all false
set_option maxRecDepth 100000
set_option maxHeartbeats 4000000
/-! Mi39: the law's end. -/
namespace Mi
open PySem PySem.Spec L2
open PyProof.Rows (Fr News envOfC AllBare IntsAre)

section
variable {P : Program} {w : World} {K : PySem.W.Frag} {mg mb : Str → Option Value} {k : Nat} {fa a : Addr} {fd : FuncData} {x : Str} {sp : Heap → Sp} {s₁ : Shared} {vs : List Value} {ns : List Int}
/-- the law is called where nothing but the script H is tracked -/
theorem law_core {H : Hp} (KX : K.In s₁.heap) (hns : s₁.heap.Ns mainGlobals mg) (hb : s₁.heap.Ns builtinsNs mb) (hbb : ∀ x : Str, x ≠ "__name__" → mb x = bootBuiltins x) (hlim : s₁.heap.NoLimit) (hg : s₁.gens = #[])
    (ha : s₁.heap.get? a = some { cls := .type "list", data := .seq vs.toArray }) (hr : Room k callerA)
    (F : ∀ base : Heap, K.In base → base.Ns mainGlobals mg → FG P w K mg base k fa fd [x] (sp base)) (hbind : ∀ u : Value, BindsTo s₁ fd ⟨[u], []⟩ [(x, u)])
    (hO : Only H) (hok : HOk P w H s₁.heap) (hA : ∀ b, H b ≠ none → b = a) (hK : H a ≠ none → K.lookup a = none)
    (hsp : ∀ base, sp base [.ref a] H (fun v _ => v = .bl true) fun _ _ _ => False) :
    codeAny (model P w) callerA (.call (.ref fa) ⟨[.ref a], []⟩) (fun r s' => r = .ok (.ret (.bool true)) ∧ OldK s₁.heap s'.heap ∧ s'.os = s₁.os ∧ AllBare s'.gens) s₁ := by
  have at_a : ∀ {b : Addr} {u : HO}, H b = some u → b = a := fun {b u} q => hA b (by rw [q]; simp)
  have free : ∀ {b : Addr} {o : Obj}, s₁.heap.get? b = some o → (∀ z, o = z → z.data ≠ .seq vs.toArray) → H b = none := fun {b o} e n => by
    cases q : H b with
    | none => rfl
    | some u =>
      cases at_a q
      rw [ha] at e
      cases e
      exact absurd rfl (n _ rfl)
  have dictFree : ∀ {b : Addr} {m : Str → Option Value}, s₁.heap.Ns b m → (hidT s₁.heap H).Ns b m := fun {b m} ⟨o, es, ep, e, d, r⟩ =>
    ⟨o, es, ep, hidT_get e (free e fun z hz hd => by subst hz; rw [d] at hd; cases hd), d, r⟩
  have KB : K.In (hidT s₁.heap H) := fun b o e => hidT_get (KX b o e) (by
    cases q : H b with
    | none => rfl
    | some u =>
      cases at_a q
      rw [hK (by rw [q]; simp)] at e
      cases e)
  have md : Mod K mg (hidT s₁.heap H) := ⟨KB, dictFree hns, ⟨mb, dictFree hb, hbb⟩, by
    obtain ⟨mc, h1, h2⟩ := hlim
    exact ⟨mc, dictFree h1, h2⟩⟩
  have e0 : Env0 P w K mg (hidT s₁.heap H) callerA [] s₁ H := ⟨rfl, md, fun b o e => of_hidT e, Nat.le_of_eq (hidT_size _ _), trivial, fun b hb => (by cases hb), hok, .of_eq hg⟩
  refine codeAny_mono ((F _ KB (dictFree hns)).run callerA [] s₁ H ⟨[.ref a], []⟩ [.ref a] [.ref a] _ _ hr rfl e0 (hbind (.ref a)) (.cons rfl .nil) (hsp _)) fun r s' h => ?_
  cases r with
  | error e =>
    obtain ⟨_, _, _, _, _, _, _, _, _, _, _, _, z⟩ := h
    exact False.elim z
  | ok fl =>
    cases fl with
    | next => exact False.elim h
    | brk => exact False.elim h
    | cont => exact False.elim h
    | ret u =>
      obtain ⟨v, H', os, bare, un, hok', rv, q⟩ := h
      cases (show v = V.bl true from q)
      cases (show u = Value.bool true from rv)
      refine ⟨rfl, OldK.of_keep fun b o e => ?_, os, bare⟩
      cases q : H b with
      | none => exact un.keep b o e q (by intro z; cases z) (by simp)
      | some u =>
        rcases hO b with z | ⟨ob, xs, z⟩
        · rw [q] at z; cases z
        · have k1 := (hok b _ z).1
          have k2 := (hok' b _ (un.frzs b ob _ z)).1
          rw [e] at k1
          cases k1
          exact k2
end
section
variable {D : PgD} {l : PySem.W.OpenLaw} {q : Program} {loose : List Str} {XP : (Str → Option Value) → Heap → Prop} {d : DefRec} {N L n j : Nat} {rL : FnR}
/-- the end: what is left is the plain law -/
theorem walkM (hn : l.most = some n) (hn2 : n ≤ sizeLine) (hdf : d.params.defaults = []) (hr : Room (2 * N + 2) callerA) (hd : d.name = "law")
    (hL : D.fns[L]? = some rL) (hLn : rL.nm = "law") (hL1 : rL.ps.length = 1) (ht : D.all.all (fun r => r.okT D.pg) = true) (hI : D.okI = true)
    (hfile : l.prog.main.file = D.file) (htop : (l.prog.main.scope.names.lookup ("super" : Str)).isSome = false)
    (plain : ∀ ns : List Int, ns.length ≤ n → ∃ m, (cfN D.pg N).call L [.scr ns] [] = .ok (.val (.bl true)) m) :
    PySem.W.WalkO q loose XP (hookM j D).says l.row.toRowW d [] (fun f vs => PySem.call f vs) := by
  refine Att.attach_call hn hdf fun w s₀ s₁ mg mb fa o pm cd doc a vs ns G Y ho hdt hcd hmg hobj hints hlen hg => ?_
  obtain ⟨K, KX, c⟩ := Y
  have hK : D.okK K = true := by
    have c1 : (D.okK K && D.all.all (fun r => okFnA K (r.at_.adr K) r.qual)) = true := congrArg Prod.fst c
    exact (Bool.and_eq_true_iff.mp c1).1
  have hfn : D.pg.fn L = some (rL.ps.length, rL.N.length, rL.b) := by unfold PgD.pg; dsimp only; rw [hL]
  have B0 : ∀ base : Heap, Fc (D.tb l.prog w K mg base) := fun base => fc_of KX G.T.g hK (obsM_d c)
  have X0 : ∀ base : Heap, Fx (D.tb l.prog w K mg base) := fun base => fx_of KX G.T.g hK (obsM_x c) hfile htop
  have F0 : ∀ base : Heap, Fns (D.tb l.prog w K mg base) N := fun base => fns_of c (B0 base) (X0 base) ht hI N
  have hfa : fa = D.fA K L := by
    have z := ((B0 default).fn L _ _ _ hfn (by show D.pg.fnm L ≠ _; have : D.pg.fnm L = rL.nm := by { unfold PgD.pg; dsimp only; rw [hL] }; rw [this, hLn]; decide +kernel)).1
    have z' : mg (D.pg.fnm L) = some (.ref (D.fA K L)) := z
    have en : D.pg.fnm L = rL.nm := by unfold PgD.pg; dsimp only; rw [hL]
    rw [en, hLn, ← hd, hmg] at z'
    cases z'
    rfl
  subst hfa
  obtain ⟨x, hx⟩ : ∃ x, rL.ps = [x] := by
    match rL.ps, hL1 with
    | [x], _ => exact ⟨x, rfl⟩
  have hmem : rL ∈ D.all := List.mem_append_left _ (mem_get hL)
  obtain ⟨fd, FD⟩ := obsM_at c hmem
  have eA : D.fA K L = rL.at_.adr K := by unfold PgD.fA; rw [hL]
  have htL : scopeB rL.N rL.ps (defScope rL.st) = true ∧ plainA (defArgs rL.st) rL.ps = true ∧ okSs D.pg rL.b ⟨rL.N, defScope rL.st, fun _ => true⟩ (defBody rL.st) = true := by
    have := List.all_eq_true.mp ht rL hmem
    unfold FnR.okT at this
    simp only [Bool.and_eq_true] at this
    exact this
  have bd := binds_of FD htL.2.1
  rw [hx] at bd
  have bd1 : ∀ u : Value, BindsTo s₁ fd ⟨[u], []⟩ [(x, u)] := fun u => bd s₁ [u] KX rfl
  have FF : ∀ base : Heap, K.In base → base.Ns mainGlobals mg → FG l.prog w K mg base (2 * N + 2) (D.fA K L) fd [x] (fun vs H Q E => ∃ N', N = N' + 1 ∧ SpF (D.tb l.prog w K mg base) N L 1 vs H Q E) := fun base _ _ => by
    cases N with
    | zero => exact fg_zero fun _ _ _ _ ⟨_, z, _⟩ => by cases z
    | succ N =>
      have ihF := fns_of (P := l.prog) (w := w) (mg := mg) (base := base) c (B0 base) (X0 base) ht hI N
      have g := fn_FG (B := D.tb l.prog w K mg base) ihF (B0 base) (X0 base) (show FunD K _ _ _ _ _ _ _ (D.fA K L) fd by rw [eA]; exact FD) (scopeB_ok htL.1) hfn rfl rfl htL.2.2
      rw [hx] at g
      exact ⟨fun vs H Q E ⟨_, _, q⟩ => g.len vs H Q E q, fun A outer s H args us vs Q E r1 r2 r3 r4 r5 ⟨_, _, q⟩ => g.run A outer s H args us vs Q E r1 r2 r3 r4 r5 q⟩
  have spf : ∀ (base : Heap) (H : Hp), SqL K H a (ns.map V.int) → SpF (D.tb l.prog w K mg base) N L 1 [.ref a] H (fun v _ => v = .bl true) fun _ _ _ => False := fun base H hS => by
    obtain ⟨m, hm⟩ := plain ns hlen
    refine ⟨⟨H, []⟩, [], [.scr ns], ⟨fun _ _ e => e, rfl, fun i ob a e _ => by simp at e, List.nodup_nil⟩, VRs.cons ?_ VRs.nil, rfl, ?_⟩
    · simp only [VR]
      exact ⟨a, rfl, hS⟩
    · show OkG _ _ _ _ ((cfN D.pg N).call L [.scr ns] []) _ _
      rw [hm]
      exact fun g' y H' _ _ r => r
  have rv := vals_ints hints
  have lenV := hints.length
  have fin : ∀ H : Hp, Only H → SqL K H a (ns.map V.int) → HOk l.prog w H s₁.heap → (∀ b, H b ≠ none → b = a) → (H a ≠ none → K.lookup a = none) →
      codeAny (model l.prog w) callerA (.call (.ref (D.fA K L)) ⟨[.ref a], []⟩) (fun r s' => r = .ok (.ret (.bool true)) ∧ OldK s₁.heap s'.heap ∧ s'.os = s₁.os ∧ AllBare s'.gens) s₁ := fun H h1 h2 h3 h4 h5 => by
    cases N with
    | zero =>
      obtain ⟨m, hm⟩ := plain ns hlen
      cases hm
    | succ N => exact law_core (sp := fun base vs H Q E => ∃ N', N + 1 = N' + 1 ∧ SpF (D.tb l.prog w K mg base) (N + 1) L 1 vs H Q E) KX G.T.g G.T.b G.T.builtins G.T.nolimit hg hobj hr FF bd1 h1 h3 h4 h5 fun base => ⟨N, rfl, spf base H h2⟩
  cases hk : K.lookup a with
  | some ob =>
    have e := KX a ob hk
    rw [hobj] at e
    cases e
    refine fin (fun _ => none) (fun _ => .inl rfl) (.inr ⟨_, vs.toArray, _, hk, rfl, rfl, rfl, ?_, ?_⟩) (fun b u z => by cases z) (fun b z => absurd rfl z) fun z => absurd rfl z
    · rw [List.size_toArray, lenV]
      exact Nat.le_trans hlen hn2
    · simpa using rv
  | none =>
    have same : ∀ {b : Addr} {u : HO}, (if b = a then some (HO.frz { cls := .type "list", data := .seq vs.toArray } (.lst (ns.map V.int))) else none) = some u → b = a := fun {b u} z => by
      by_cases hb : b = a
      · exact hb
      · rw [if_neg hb] at z
        cases z
    refine fin (fun b => if b = a then some (.frz { cls := .type "list", data := .seq vs.toArray } (.lst (ns.map V.int))) else none) (fun b => ?_) (.inl (.inr ⟨_, if_pos rfl⟩)) (fun b u z => ?_) (fun b z => ?_) fun _ => hk
    · by_cases hb : b = a
      · exact .inr ⟨_, _, if_pos hb⟩
      · exact .inl (if_neg hb)
    · have hb := same z
      subst hb
      have z' := (if_pos rfl).symm.trans z
      cases z'
      exact ⟨hobj, by rw [List.length_map]; exact Nat.le_trans hlen hn2, vs, _, rv, hobj⟩
    · obtain ⟨u, hu⟩ := Option.ne_none_iff_exists'.mp z
      exact same hu
end
end Mi

set_option Elab.async false
set_option linter.all false
set_option maxRecDepth 100000
set_option maxHeartbeats 4000000
/-! Pl1: loops of the small language, for the plain laws. -/
namespace Mi
open PySem L2


theorem forL_next {f : W → En → Mem → SR} {P : List W → En → Mem → Prop} (h : ∀ x xs env m, P (x :: xs) env m → ∃ env' m', f x env m = .next env' m' ∧ P xs env' m') :
    ∀ xs env m, P xs env m → ∃ env' m', forL f none xs env m = .next env' m' ∧ P [] env' m'
  | [], env, m, p => ⟨env, m, by simp [forL, okSrc], p⟩
  | x :: xs, env, m, p => by
    obtain ⟨e1, m1, h1, p1⟩ := h x xs env m p
    obtain ⟨e2, m2, h2, p2⟩ := forL_next h xs e1 m1 p1
    exact ⟨e2, m2, by simp [forL, okSrc, h1, h2], p2⟩
theorem compL_pure {α : Type} {f : W → Mem → Out (Option α)} {g : W → Option α} {m : Mem} : ∀ {xs : List W}, (∀ x ∈ xs, f x m = .ok (g x) m) → compL f none xs m = .ok (xs.filterMap g) m
  | [], _ => by simp [compL, okSrc]
  | x :: xs, h => by
    have h1 := h x (List.mem_cons_self ..)
    have h2 := compL_pure (xs := xs) fun y hy => h y (List.mem_cons_of_mem _ hy)
    simp only [compL, okSrc, if_true, h1, Out.bind, h2, List.filterMap_cons]
    cases g x <;> rfl
theorem compL_next {α : Type} {f : W → Mem → Out (Option α)} {P : List W → Mem → Prop} {R : W → α → Prop} (h : ∀ x xs m, P (x :: xs) m → ∃ y m', f x m = .ok y m' ∧ P xs m' ∧ ∀ z, y = some z → R x z) :
    ∀ xs m, P xs m → ∃ ys m', compL f none xs m = .ok ys m' ∧ P [] m' ∧ ∀ y ∈ ys, ∃ x ∈ xs, R x y
  | [], m, p => ⟨[], m, by simp [compL, okSrc], p, by simp⟩
  | x :: xs, m, p => by
    obtain ⟨y, m1, h1, p1, r1⟩ := h x xs m p
    obtain ⟨ys, m2, h2, p2, r2⟩ := compL_next h xs m1 p1
    refine ⟨y.toList ++ ys, m2, by simp only [compL, okSrc, if_true, h1, Out.bind, h2]; cases y <;> rfl, p2, ?_⟩
    intro z hz
    cases y with
    | none =>
      obtain ⟨w, hw, r⟩ := r2 z hz
      exact ⟨w, List.mem_cons_of_mem _ hw, r⟩
    | some y =>
      rcases List.mem_cons.mp hz with rfl | hz
      · exact ⟨x, List.mem_cons_self .., r1 _ rfl⟩
      · obtain ⟨w, hw, r⟩ := r2 z hz
        exact ⟨w, List.mem_cons_of_mem _ hw, r⟩
/-- all items stay: as many results -/
theorem compL_all {α : Type} {f : W → Mem → Out (Option α)} {P : List W → Mem → Prop} {R : W → α → Prop} (h : ∀ x xs m, P (x :: xs) m → ∃ y m', f x m = .ok (some y) m' ∧ P xs m' ∧ R x y) :
    ∀ xs m, P xs m → ∃ ys m', compL f none xs m = .ok ys m' ∧ P [] m' ∧ ys.length = xs.length ∧ ∀ y ∈ ys, ∃ x ∈ xs, R x y
  | [], m, p => ⟨[], m, by simp [compL, okSrc], p, rfl, by simp⟩
  | x :: xs, m, p => by
    obtain ⟨y, m1, h1, p1, r1⟩ := h x xs m p
    obtain ⟨ys, m2, h2, p2, l2, r2⟩ := compL_all h xs m1 p1
    refine ⟨y :: ys, m2, by simp only [compL, okSrc, if_true, h1, Out.bind, h2], p2, by simp [l2], ?_⟩
    intro z hz
    rcases List.mem_cons.mp hz with rfl | hz
    · exact ⟨x, List.mem_cons_self .., r1⟩
    · obtain ⟨w, hw, r⟩ := r2 z hz
      exact ⟨w, List.mem_cons_of_mem _ hw, r⟩
/-- some items stay as they are -/
theorem compL_sub {f : W → Mem → Out (Option W)} {P : List W → Mem → Prop} (h : ∀ x xs m, P (x :: xs) m → ∃ y m', f x m = .ok y m' ∧ P xs m' ∧ (y = none ∨ y = some x)) :
    ∀ xs m, P xs m → ∃ ys m', compL f none xs m = .ok ys m' ∧ P [] m' ∧ ys.Sublist xs
  | [], m, p => ⟨[], m, by simp [compL, okSrc], p, .slnil⟩
  | x :: xs, m, p => by
    obtain ⟨y, m1, h1, p1, r1⟩ := h x xs m p
    obtain ⟨ys, m2, h2, p2, l2⟩ := compL_sub h xs m1 p1
    rcases r1 with rfl | rfl
    · exact ⟨ys, m2, by simp only [compL, okSrc, if_true, h1, Out.bind, h2], p2, l2.cons _⟩
    · exact ⟨x :: ys, m2, by simp only [compL, okSrc, if_true, h1, Out.bind, h2], p2, l2.cons₂ _⟩
/-- sizes -/
theorem lgN {x : Nat} {p : Nat} (h : x < 2 ^ p) (hp : 0 < p := by decide) : x.log2 < p := by
  by_cases h0 : x = 0
  · subst h0; exact hp
  · exact (Nat.log2_lt h0).mpr h
theorem lgI {x : Int} {p : Nat} (h0 : 0 ≤ x) (h : x < ((2 ^ p : Nat) : Int)) (hp : 0 < p := by decide) : x.natAbs.log2 < p := by
  refine lgN ?_ hp
  omega

theorem compL_map {α β : Type} {f : W → Mem → Out (Option α)} {w : β → W} {p : β → Option α} {m : Mem} : ∀ {is : List β}, (∀ i ∈ is, f (w i) m = .ok (p i) m) → compL f none (is.map w) m = .ok (is.filterMap p) m
  | [], _ => by simp [compL, okSrc]
  | i :: is, h => by
    have h1 := h i (List.mem_cons_self ..)
    have h2 := compL_map (is := is) fun j hj => h j (List.mem_cons_of_mem _ hj)
    simp only [compL, okSrc, if_true, h1, Out.bind, h2, List.map_cons, List.filterMap_cons]
    cases p i <;> rfl
/-- a comprehension that reads alone -/
theorem comp_pure {T : Pg} {cf : CF} {env : En} {tg : Tg} {own : List Nat} {it : Mi.It} {ifs : Es} {e : E} {m : Mem} {β : Type} {is : List β} {w : β → W} {p : β → Option W}
    (hi : evI T cf env it m = .ok (is.map w, none) m) (hl : is.length ≤ sizeLine)
    (h : ∀ i ∈ is, ∃ env', bindT tg (w i) (wipeE env own) = some env' ∧ ∃ b, evIf T cf env' ifs m = .ok b m ∧ (b = false → p i = none) ∧ (b = true → ∃ r v, evE T cf env' e m = .ok r m ∧ esc r = some v ∧ p i = some v)) :
    evE T cf env (.comp tg own it ifs e) m = .ok (.new (.lst (is.filterMap p))) m := by
  rw [evE, hi]
  dsimp only [Out.bind]
  rw [if_pos (by rw [List.length_map]; exact hl), compL_map (p := p) fun i hm => ?_]
  obtain ⟨env', h1, b, h2, h3, h4⟩ := h i hm
  rw [h1]
  dsimp only
  rw [h2]
  dsimp only
  cases b with
  | false => rw [h3 rfl]; rfl
  | true =>
    obtain ⟨r, v, h5, h6, h7⟩ := h4 rfl
    dsimp only
    rw [h5]
    dsimp only
    rw [h6, h7]
    rfl
/-- a comprehension with a state, all items kept -/
theorem comp_all {T : Pg} {cf : CF} {env : En} {tg : Tg} {own : List Nat} {it : Mi.It} {e : E} {m m0 : Mem} {xs : List W} {P : List W → Mem → Prop} {R : W → W → Prop}
    (hi : evI T cf env it m0 = .ok (xs, none) m) (hl : xs.length ≤ sizeLine) (h0 : P xs m)
    (h : ∀ x ys m, P (x :: ys) m → ∃ env', bindT tg x (wipeE env own) = some env' ∧ ∃ r v m', evE T cf env' e m = .ok r m' ∧ esc r = some v ∧ P ys m' ∧ R x v) :
    ∃ ys m', evE T cf env (.comp tg own it .nil e) m0 = .ok (.new (.lst ys)) m' ∧ P [] m' ∧ ys.length = xs.length ∧ ∀ y ∈ ys, ∃ x ∈ xs, R x y := by
  obtain ⟨ys, m', e1, p1, l1, r1⟩ := compL_all (f := fun x m => noX (match bindT tg x (wipeE env own) with
        | some env' => (evIf T cf env' .nil m).bind fun b m1 => match b with
          | true => (evE T cf env' e m1).bind fun r m2 => (match esc r with | some w => .ok (some w) m2 | none => .stuck)
          | false => .ok none m1
        | none => .stuck)) (P := P) (R := R) (fun x ys m p => by
      obtain ⟨env', h1, r, v, m', h2, h3, h4, h5⟩ := h x ys m p
      refine ⟨v, m', ?_, h4, h5⟩
      simp only [h1, evIf, Out.bind, h2, h3, noX]) xs m h0
  refine ⟨ys, m', ?_, p1, l1, r1⟩
  rw [evE, hi]
  change (if xs.length ≤ sizeLine then (compL _ none xs m).bind _ else .stuck) = _
  rw [if_pos hl]
  exact congrArg (fun z : Out (List W) => z.bind fun ws m2 => (.ok (.new (.lst ws)) m2 : Out RV)) e1

/-- a for that runs to its end -/
theorem for_next {T : Pg} {cf : CF} {tg : Tg} {it : Mi.It} {b : Ss} {env : En} {m m1 : Mem} {xs : List W} {P : List W → En → Mem → Prop}
    (hi : evI T cf env it m = .ok (xs, none) m1) (h0 : P xs env m1)
    (h : ∀ x xs env m, P (x :: xs) env m → ∃ env1, bindT tg x env = some env1 ∧ ∃ env' m', evSs T cf b env1 m = .next env' m' ∧ P xs env' m') :
    ∃ env' m', evS T cf (.for tg it b) env m = .next env' m' ∧ P [] env' m' := by
  obtain ⟨env', m', e1, p1⟩ := forL_next (f := fun x env m => match bindT tg x env with | some env' => evSs T cf b env' m | none => .stuck) (P := P) (fun x xs env m p => by
    obtain ⟨env1, h1, env', m', h2, h3⟩ := h x xs env m p
    exact ⟨env', m', by rw [h1]; exact h2, h3⟩) xs env m1 h0
  refine ⟨env', m', ?_, p1⟩
  rw [evS, hi]
  exact e1

section
variable {T : Pg} {cf : CF} {env env' : En} {m m1 m2 : Mem}
theorem evSs_next {s : Mi.S} {ss : Ss} (h : evS T cf s env m = .next env' m1) : evSs T cf (.cons s ss) env m = evSs T cf ss env' m1 := by rw [evSs, h]; rfl
theorem evSs_ret {s : Mi.S} {ss : Ss} {r : RV} (h : evS T cf s env m = .ret r m1) : evSs T cf (.cons s ss) env m = .ret r m1 := by rw [evSs, h]; rfl
theorem evI_rng2 {a b : E} {i j : Int} (hi : evE T cf env a m = .ok (.val (.int i)) m1) (hj : evE T cf env b m1 = .ok (.val (.int j)) m2) (h1 : small62 i = true) (h2 : small62 j = true) : evI T cf env (.rng2 a b) m = .ok (rngL i j, none) m2 := by
  rw [evI, hi]
  simp only [Out.bind, hj, h1, h2, Bool.and_self, if_true]
theorem evI_rng1 {a : E} {i : Int} (hi : evE T cf env a m = .ok (.val (.int i)) m1) (h1 : small62 i = true) : evI T cf env (.rng1 a) m = .ok (rngL 0 i, none) m1 := by
  rw [evI, hi]
  simp only [Out.bind, h1, if_true]
theorem evS_ret {e : E} {w : W} (h : evE T cf env e m = .ok (.val w) m1) : evS T cf (.ret e) env m = .ret (.val w) m1 := by rw [evS, h]; rfl
theorem ite_f {c : E} {a b : Ss} (h : evE T cf env c m = .ok (.val (.bl false)) m1) : evS T cf (.ite c a b) env m = evSs T cf b env m1 := by rw [evS, h]; rfl
theorem ite_t {c : E} {a b : Ss} (h : evE T cf env c m = .ok (.val (.bl true)) m1) : evS T cf (.ite c a b) env m = evSs T cf a env m1 := by rw [evS, h]; rfl
theorem evSs_nil : evSs T cf .nil env m = .next env m := by rw [evSs]
end
end Mi

set_option Elab.async false
set_option linter.all false
set_option maxRecDepth 100000
set_option maxHeartbeats 4000000
/-! Pl2: the laws' purse, for the plain laws. -/
namespace Mi
open PySem L2
section
variable {T : Pg}
theorem call_at {n f np ns : Nat} {b : Ss} {ws : List W} {m : Mem} (h : T.fn f = some (np, ns, b)) (hl : ws.length = np) :
    (cfN T (n + 1)).call f ws m = outOf (evSs T (cfN T n) b (env0 ns (ws.map .val)) m) := by
  rw [cfN]
  dsimp only
  rw [h]
  dsimp only
  rw [if_pos hl]
theorem new_at {n c np ns : Nat} {b : Ss} {ws : List W} {m : Mem} (h : T.ini c = some (np, ns, b)) (hl : ws.length + 1 = np) :
    (cfN T (n + 1)).new c ws m = iniOf (evSs T (cfN T n) b (env0 ns (.own (.ins c []) :: ws.map .val)) m) := by
  rw [cfN]
  dsimp only
  rw [h]
  dsimp only
  rw [if_pos hl]
/-- the purse at i: so much was drawn -/
def Pu (K : Nat) (i : Nat) (m : Mem) : Prop := ∃ a b c : Int, m[i]? = some (.lst [.int a, .int b, .int c]) ∧ 0 ≤ a ∧ 0 ≤ b ∧ b < 2147483629 ∧ 0 ≤ c ∧ c ≤ K
theorem Pu.mono {K K' i : Nat} {m : Mem} (h : Pu K i m) (hk : K ≤ K') : Pu K' i m := by
  obtain ⟨a, b, c, h1, h2, h3, h4, h5, h6⟩ := h
  exact ⟨a, b, c, h1, h2, h3, h4, h5, by omega⟩
def bDraw : Ss := (.cons (.ite (.cmp .gt (.ix (.var 0) (.int 0)) (.int 0)) (.cons (.set 2 false (.bin .mod (.blt .int (.cons (.ix (.var 0) (.int 0)) .nil)) (.var 1))) (.cons (.setIx (.var 0) (.int 0) (.bin .fdiv (.ix (.var 0) (.int 0)) (.var 1))) (.cons (.ret (.var 2)) .nil))) .nil) (.cons (.set 3 false (.bin .add (.ix (.var 0) (.int 2)) (.int 1))) (.cons (.setIx (.var 0) (.int 2) (.var 3)) (.cons (.set 4 false (.bin .mod (.blt .int (.cons (.bin .mul (.bin .add (.ix (.var 0) (.int 1)) (.bin .mul (.int 104729) (.var 3))) (.bin .add (.bin .mul (.var 3) (.var 3)) (.int 7919))) .nil)) (.int 2147483629))) (.cons (.set 4 false (.bin .mod (.blt .int (.cons (.bin .add (.bin .mul (.var 4) (.var 4)) (.var 3)) .nil)) (.int 2147483587))) (.cons (.ret (.bin .mod (.bin .fdiv (.bin .mod (.blt .int (.cons (.bin .mul (.var 4) (.int 48271)) .nil)) (.int 2147483647)) (.int 64)) (.var 1))) .nil))))))
def bPick (dr : Nat) : Ss := (.cons (.ret (.ix (.var 1) (.call dr (.cons (.var 0) (.cons (.blt .len (.cons (.var 1) .nil)) .nil))))) .nil)
def bPurse : Ss := (.cons (.set 2 false (.int 0)) (.cons (.ite (.cmp .lt (.var 1) (.blt .len (.cons (.var 0) .nil))) (.cons (.set 2 false (.ix (.var 0) (.var 1))) .nil) .nil) (.cons (.ret (.list (.cons (.bin .mod (.blt .int (.cons (.blt .max (.cons (.bin .sub (.var 2) (.bin .pow (.int 10) (.int 18))) (.cons (.int 0) .nil))) .nil)) (.bin .pow (.bin .pow (.int 10) (.int 40)) (.int 10))) (.cons (.bin .mod (.blt .int (.cons (.var 2) .nil)) (.int 2147483629)) (.cons (.int 0) .nil))))) .nil)))
theorem lt_of_mem {i : Nat} {m : Mem} {o : Ob} (h : m[i]? = some o) : i < m.length := (List.getElem?_eq_some_iff.mp h).1
theorem draw_ok {dr n i K : Nat} {k : Int} {m : Mem} (hd : T.fn dr = some (2, 5, bDraw)) (h : Pu K i m) (hK : K ≤ 1000000) (hk : 0 < k) (hk2 : k ≤ 1000000000) :
    ∃ d m', (cfN T (n + 1)).call dr [.cell i, .int k] m = .ok (.val (.int d)) m' ∧ 0 ≤ d ∧ d < k ∧ Pu (K + 1) i m' := by
  obtain ⟨a, b, c, hm, h2, h3, h4, h5, h6⟩ := h
  have hl := lt_of_mem hm
  have lk : k.natAbs.log2 < 9000 := by
    have := lgI (p := 31) (x := k) (by omega) (by omega)
    omega
  have hs : ∀ o : Ob, (List.set m i o)[i]? = some o := fun o => by simp [hl]
  rw [call_at hd rfl]
  by_cases ha : 0 < a
  · refine ⟨a % k, m.set i (.lst [.int (a / k), .int b, .int c]), ?_, Int.emod_nonneg _ (by omega), Int.emod_lt_of_pos _ hk, a / k, b, c, ?_, ?_, h3, h4, h5, by omega⟩
    · simp [Mi.evSs, Mi.evS, Mi.evE, Mi.evWs, Mi.evRs, Mi.evB, Mi.evIf, Mi.evI, Mi.evKs, Mi.toS, Mi.Out.bind, Mi.esc, Mi.rd, Mi.ixV, Mi.optInt, Mi.cmpG, Mi.boolRV, Mi.cmpV, Mi.lift, Mi.bltG, Mi.reads, Mi.bltV, Mi.deepRs, Mi.deepR, Mi.binG, Mi.binV, Mi.setOwn, Mi.setOwns, Mi.setItm, Mi.setV, Mi.SR.seq, Mi.retV, Mi.outOf, L2.atI, L2.ixN, Mi.Ob.w, Mi.isTy, Mi.isiB, Mi.noX, Mi.env0, bDraw, hm, ha, hk, lk]
    · simp [hl]
    · exact Int.ediv_nonneg (by omega) (by omega)
  · have a0 : a = 0 := by omega
    subst a0
    have t0 : (0 : Int) ≤ c + 1 := by omega
    have t1 : c + 1 ≤ 1000001 := by omega
    have tt0 : 0 ≤ (c + 1) * (c + 1) := Int.mul_nonneg t0 t0
    have tt1 : (c + 1) * (c + 1) ≤ 1000001 * 1000001 := Int.mul_le_mul t1 t1 t0 (by omega)
    have l1 : (104729 : Nat).log2 + (c + 1).natAbs.log2 < 1000000 := by
      have := lgI (p := 31) (x := c + 1) t0 (by omega)
      have e : (104729 : Nat).log2 = 16 := by decide +kernel
      omega
    have l2 : (c + 1).natAbs.log2 + (c + 1).natAbs.log2 < 1000000 := by
      have := lgI (p := 31) (x := c + 1) t0 (by omega)
      omega
    have l3 : (b + 104729 * (c + 1)).natAbs.log2 + ((c + 1) * (c + 1) + 7919).natAbs.log2 < 1000000 := by
      have := lgI (p := 63) (x := b + 104729 * (c + 1)) (by omega) (by omega)
      have := lgI (p := 63) (x := (c + 1) * (c + 1) + 7919) (by omega) (by omega)
      omega
    generalize hx : (b + 104729 * (c + 1)) * ((c + 1) * (c + 1) + 7919) % 2147483629 = x
    have x0 : 0 ≤ x := by rw [← hx]; exact Int.emod_nonneg _ (by omega)
    have x1 : x < 2147483629 := by rw [← hx]; exact Int.emod_lt_of_pos _ (by omega)
    have l4 : x.natAbs.log2 + x.natAbs.log2 < 1000000 := by
      have := lgI (p := 32) (x := x) x0 (by omega)
      omega
    generalize hy : (x * x + (c + 1)) % 2147483587 = y
    have y0 : 0 ≤ y := by rw [← hy]; exact Int.emod_nonneg _ (by omega)
    have y1 : y < 2147483587 := by rw [← hy]; exact Int.emod_lt_of_pos _ (by omega)
    have l5 : y.natAbs.log2 + (48271 : Nat).log2 < 1000000 := by
      have := lgI (p := 32) (x := y) y0 (by omega)
      have e : (48271 : Nat).log2 = 15 := by decide +kernel
      omega
    have z6 : (64 : Nat).log2 < 9000 := by decide +kernel
    refine ⟨y * 48271 % 2147483647 / 64 % k, m.set i (.lst [.int 0, .int b, .int (c + 1)]), ?_, Int.emod_nonneg _ (by omega), Int.emod_lt_of_pos _ hk, 0, b, c + 1, by simp [hl], by omega, h3, h4, by omega, by omega⟩
    simp [Mi.evSs, Mi.evS, Mi.evE, Mi.evWs, Mi.evRs, Mi.evB, Mi.evIf, Mi.evI, Mi.evKs, Mi.toS, Mi.Out.bind, Mi.esc, Mi.rd, Mi.ixV, Mi.optInt, Mi.cmpG, Mi.boolRV, Mi.cmpV, Mi.lift, Mi.bltG, Mi.reads, Mi.bltV, Mi.deepRs, Mi.deepR, Mi.binG, Mi.binV, Mi.setOwn, Mi.setOwns, Mi.setItm, Mi.setV, Mi.SR.seq, Mi.retV, Mi.outOf, L2.atI, L2.ixN, Mi.Ob.w, Mi.isTy, Mi.isiB, Mi.noX, Mi.env0, bDraw, hm, hk, l1, l2, l3, hx, l4, hy, l5, z6, hs]

theorem pick_ok {dr pk n i K : Nat} {xs : List W} {m : Mem} (hd : T.fn dr = some (2, 5, bDraw)) (hp : T.fn pk = some (2, 2, bPick dr)) (h : Pu K i m) (hK : K ≤ 1000000) (hx : 0 < xs.length) (hx2 : xs.length ≤ 1000000) :
    ∃ w m', (cfN T (n + 2)).call pk [.cell i, .lst xs] m = .ok (.val w) m' ∧ w ∈ xs ∧ Pu (K + 1) i m' := by
  obtain ⟨d, m', e, d0, d1, p⟩ := draw_ok (n := n) (k := (xs.length : Int)) hd h hK (by omega) (by omega)
  have hlt : d.toNat < xs.length := by omega
  refine ⟨xs[d.toNat], m', ?_, List.getElem_mem _, p⟩
  rw [call_at hp rfl]
  simp [Mi.evSs, Mi.evS, Mi.evE, Mi.evWs, Mi.evRs, Mi.evB, Mi.evIf, Mi.evI, Mi.evKs, Mi.toS, Mi.Out.bind, Mi.esc, Mi.rd, Mi.ixV, Mi.optInt, Mi.cmpG, Mi.boolRV, Mi.cmpV, Mi.lift, Mi.bltG, Mi.reads, Mi.bltV, Mi.deepRs, Mi.deepR, Mi.binG, Mi.binV, Mi.setOwn, Mi.setOwns, Mi.setItm, Mi.setV, Mi.SR.seq, Mi.retV, Mi.outOf, L2.atI, L2.ixN, Mi.Ob.w, Mi.isTy, Mi.isiB, Mi.noX, Mi.env0, bPick, e, d0, d1, List.getElem?_eq_getElem hlt]
theorem purse_ok {pu n : Nat} {ns : List Int} {j : Int} {m : Mem} (hp : T.fn pu = some (2, 3, bPurse)) (hj : 0 ≤ j) :
    ∃ a b : Int, (cfN T (n + 1)).call pu [.scr ns, .int j] m = .ok (.new (.lst [.int a, .int b, .int 0])) m ∧ 0 ≤ a ∧ 0 ≤ b ∧ b < 2147483629 := by
  have z1 : (10 : Int) ^ 18 = 1000000000000000000 := by decide +kernel
  have fin : ∀ v : Int, ∃ a b : Int, outOf (evSs T (cfN T n) (.cons (.ret (.list (.cons (.bin .mod (.blt .int (.cons (.blt .max (.cons (.bin .sub (.var 2) (.bin .pow (.int 10) (.int 18))) (.cons (.int 0) .nil))) .nil)) (.bin .pow (.bin .pow (.int 10) (.int 40)) (.int 10))) (.cons (.bin .mod (.blt .int (.cons (.var 2) .nil)) (.int 2147483629)) (.cons (.int 0) .nil))))) .nil) [.val (.scr ns), .val (.int j), .val (.int v)] m) = .ok (.new (.lst [.int a, .int b, .int 0])) m ∧ 0 ≤ a ∧ 0 ≤ b ∧ b < 2147483629 := fun v => by
    generalize hM : (10000000000000000000000000000000000000000 : Int) ^ 10 = M
    have hM0 : 0 < M := by rw [← hM]; decide +kernel
    refine ⟨(if 0 > v - 1000000000000000000 then 0 else v - 1000000000000000000) % M, v % 2147483629, ?_, Int.emod_nonneg _ (by omega), Int.emod_nonneg _ (by omega), Int.emod_lt_of_pos _ (by omega)⟩
    have b1 : (10 : Int) ^ 40 = 10000000000000000000000000000000000000000 := by decide +kernel
    have L : (3 : Nat) ≤ sizeLine := by rw [sizeLine_eq]; omega
    simp only [evSs, evS, evE, evWs, evRs, toS, Out.bind, esc, rd, binG, lift, bltG, reads, bltV, deepRs, deepR, binV, List.getElem?_cons_zero, List.getElem?_cons_succ]
    have mx : Builtin.Int.intBits 10 = 4 := by decide +kernel
    have mx2 : Builtin.Int.intBits 10000000000000000000000000000000000000000 = 133 := by decide +kernel
    simp [Mi.evSs, Mi.evS, Mi.evE, Mi.evWs, Mi.evRs, Mi.evB, Mi.evIf, Mi.evI, Mi.evKs, Mi.toS, Mi.Out.bind, Mi.esc, Mi.rd, Mi.ixV, Mi.optInt, Mi.cmpG, Mi.boolRV, Mi.cmpV, Mi.lift, Mi.bltG, Mi.reads, Mi.bltV, Mi.deepRs, Mi.deepR, Mi.binG, Mi.binV, Mi.setOwn, Mi.setOwns, Mi.setItm, Mi.setV, Mi.SR.seq, Mi.retV, Mi.outOf, L2.atI, L2.ixN, Mi.Ob.w, Mi.isTy, Mi.isiB, Mi.noX, Mi.env0, b1, mx, mx2, z1, hM, hM0, L]
  rw [call_at hp rfl]
  by_cases hl : j < (ns.length : Int)
  · have hlt : j.toNat < ns.length := by omega
    obtain ⟨a, b, e, h⟩ := fin ns[j.toNat]
    refine ⟨a, b, ?_, h⟩
    rw [← e]
    simp [Mi.evSs, Mi.evS, Mi.evE, Mi.evWs, Mi.evRs, Mi.evB, Mi.evIf, Mi.evI, Mi.evKs, Mi.toS, Mi.Out.bind, Mi.esc, Mi.rd, Mi.ixV, Mi.optInt, Mi.cmpG, Mi.boolRV, Mi.cmpV, Mi.lift, Mi.bltG, Mi.reads, Mi.bltV, Mi.deepRs, Mi.deepR, Mi.binG, Mi.binV, Mi.setOwn, Mi.setOwns, Mi.setItm, Mi.setV, Mi.SR.seq, Mi.retV, Mi.outOf, L2.atI, L2.ixN, Mi.Ob.w, Mi.isTy, Mi.isiB, Mi.noX, Mi.env0, bPurse, hj, hl, List.getElem?_eq_getElem hlt]
  · obtain ⟨a, b, e, h⟩ := fin 0
    refine ⟨a, b, ?_, h⟩
    rw [← e]
    simp [Mi.evSs, Mi.evS, Mi.evE, Mi.evWs, Mi.evRs, Mi.evB, Mi.evIf, Mi.evI, Mi.evKs, Mi.toS, Mi.Out.bind, Mi.esc, Mi.rd, Mi.ixV, Mi.optInt, Mi.cmpG, Mi.boolRV, Mi.cmpV, Mi.lift, Mi.bltG, Mi.reads, Mi.bltV, Mi.deepRs, Mi.deepR, Mi.binG, Mi.binV, Mi.setOwn, Mi.setOwns, Mi.setItm, Mi.setV, Mi.SR.seq, Mi.retV, Mi.outOf, L2.atI, L2.ixN, Mi.Ob.w, Mi.isTy, Mi.isiB, Mi.noX, Mi.env0, bPurse, hj, hl]
end
end Mi

set_option Elab.async false
set_option linter.all false
set_option maxRecDepth 100000
set_option maxHeartbeats 4000000
namespace MiP
open PySem L2 Mi
def top (i : Nat) : Stmt := PySem.Challenge.pw_anymanner_k11_sorts_made.main.body.getD i (.Pass ⟨0, 0, 0, 0⟩)
/-- _wall(k): 0=k -/
def b0_0 : Ss := (.cons .pass .nil)
def s0_1 : S := (.while (.bl true) b0_0)
def b0 : Ss := (.cons s0_1 .nil)
/-- is_whole(value): 0=value -/
def b6 : Ss := (.cons (.ret (.bool true (.cons (.isin (.var 0) [.int]) (.cons (.not (.isin (.var 0) [.bool])) .nil)))) .nil)
/-- is_name(value): 0=value 1=letter -/
def e7_0 : E := (.comp (.n 1) [1] (.e (.var 0)) (.cons (.cmp .notin (.var 1) (.glob 0)) .nil) (.var 1))
def b7 : Ss := (.cons (.ite (.bool false (.cons (.not (.isin (.var 0) [.str])) (.cons (.not (.chain .le .le (.int 1) (.blt .len (.cons (.var 0) .nil)) (.glob 1))) .nil))) (.cons (.ret (.bl false)) .nil) .nil) (.cons (.ret (.cmp .eq e7_0 (.list .nil))) .nil))
/-- check_name(value): 0=value -/
def b8 : Ss := (.cons (.ite (.not (.call 7 (.cons (.var 0) .nil))) (.cons (.raise 5 (.cons (.var 0) .nil)) .nil) .nil) .nil)
/-- common_divisor(one, other): 0=one 1=other -/
def b9_0 : Ss := (.cons (.setP [(0, false), (1, false)] (.cons (.var 1) (.cons (.bin .mod (.blt .int (.cons (.var 0) .nil)) (.blt .int (.cons (.var 1) .nil))) .nil))) .nil)
def s9_1 : S := (.while (.cmp .ne (.var 1) (.int 0)) b9_0)
def b9 : Ss := (.cons s9_1 (.cons (.ret (.var 0)) .nil))
/-- is_fraction(value): 0=value 1=one -/
def e10_0 : E := (.comp (.n 1) [1] (.e (.var 0)) (.cons (.bool false (.cons (.not (.isin (.var 1) [.int])) (.cons (.isin (.var 1) [.bool]) .nil))) .nil) (.var 1))
def b10 : Ss := (.cons (.ite (.bool false (.cons (.not (.isin (.var 0) [.tuple])) (.cons (.cmp .ne (.blt .len (.cons (.var 0) .nil)) (.int 2)) .nil))) (.cons (.ret (.bl false)) .nil) .nil) (.cons (.ite (.cmp .ne e10_0 (.list .nil)) (.cons (.ret (.bl false)) .nil) .nil) (.cons (.ret (.bool true (.cons (.chain .le .le (.int 0) (.ix (.var 0) (.int 0)) (.ix (.var 0) (.int 1))) (.cons (.cmp .ge (.ix (.var 0) (.int 1)) (.int 1)) (.cons (.cmp .eq (.call 9 (.cons (.ix (.var 0) (.int 0)) (.cons (.ix (.var 0) (.int 1)) .nil))) (.int 1)) .nil))))) .nil)))
/-- times_fractions(one, other): 0=one 1=other 2=number 3=total 4=shared -/
def b11 : Ss := (.cons (.setP [(2, false), (3, false)] (.cons (.bin .mul (.ix (.var 0) (.int 0)) (.ix (.var 1) (.int 0))) (.cons (.bin .mul (.ix (.var 0) (.int 1)) (.ix (.var 1) (.int 1))) .nil))) (.cons (.set 4 false (.call 9 (.cons (.var 2) (.cons (.var 3) .nil)))) (.cons (.ret (.tup (.cons (.bin .fdiv (.var 2) (.var 4)) (.cons (.bin .fdiv (.var 3) (.var 4)) .nil)))) .nil)))
/-- is_less_fraction(one, other): 0=one 1=other -/
def b12 : Ss := (.cons (.ret (.cmp .lt (.bin .mul (.ix (.var 0) (.int 0)) (.ix (.var 1) (.int 1))) (.bin .mul (.ix (.var 1) (.int 0)) (.ix (.var 0) (.int 1))))) .nil)
/-- is_product(value): 0=value 1=letter -/
def e13_0 : E := (.comp (.n 1) [1] (.e (.ix (.var 0) (.int 0))) (.cons (.not (.call 7 (.cons (.var 1) .nil))) .nil) (.var 1))
def b13 : Ss := (.cons (.ite (.bool false (.cons (.not (.isin (.var 0) [.tuple])) (.cons (.cmp .ne (.blt .len (.cons (.var 0) .nil)) (.int 2)) (.cons (.not (.isin (.ix (.var 0) (.int 0)) [.list])) .nil)))) (.cons (.ret (.bl false)) .nil) .nil) (.cons (.ite (.cmp .ne e13_0 (.list .nil)) (.cons (.ret (.bl false)) .nil) .nil) (.cons (.ret (.bool true (.cons (.call 6 (.cons (.ix (.var 0) (.int 1)) .nil)) (.cons (.cmp .ge (.ix (.var 0) (.int 1)) (.int 1)) .nil)))) .nil)))
/-- is_products(value): 0=value 1=one -/
def e14_0 : E := (.comp (.n 1) [1] (.e (.var 0)) (.cons (.not (.call 13 (.cons (.var 1) .nil))) .nil) (.var 1))
def b14 : Ss := (.cons (.ret (.bool true (.cons (.isin (.var 0) [.list]) (.cons (.cmp .eq e14_0 (.list .nil)) .nil)))) .nil)
/-- key_of(letters): 0=letters 1=letter -/
def e15_0 : E := (.comp (.n 1) [1] (.e (.var 0)) .nil (.blt .str (.cons (.var 1) .nil)))
def b15 : Ss := (.cons (.ret (.bm .join (.str (" " : Str)) (.cons (.blt .sorted (.cons e15_0 .nil)) .nil))) .nil)
/-- collected(products): 0=products 1=found 2=letters 3=many 4=key 5=one -/
def b16_0 : Ss := (.cons (.set 4 false (.call 15 (.cons (.var 2) .nil))) (.cons (.setIx (.var 1) (.var 4) (.bin .add (.bm .get (.var 1) (.cons (.var 4) (.cons (.int 0) .nil))) (.var 3))) .nil))
def s16_1 : S := (.for (.t [2, 3]) (.e (.var 0)) b16_0)
def e16_2 : E := (.comp (.n 5) [5] (.e (.var 1)) .nil (.blt .str (.cons (.var 5) .nil)))
def e16_3 : E := (.dcomp false (.n 4) [4] (.e (.blt .sorted (.cons e16_2 .nil))) .nil (.var 4) (.ix (.var 1) (.var 4)))
def b16 : Ss := (.cons (.set 1 true (.dict false .nil)) (.cons s16_1 (.cons (.frz 1) (.cons (.ret e16_3) .nil))))
/-- Record.__init__(self, terms): 0=self 1=terms -/
def b17 : Ss := (.cons (.ite (.not (.call 14 (.cons (.var 1) .nil))) (.cons (.raise 4 (.cons (.var 1) .nil)) .nil) .nil) (.cons (.setF (.var 0) 0 (.call 16 (.cons (.var 1) .nil))) .nil))
/-- Record.terms(self): 0=self 1=key -/
def e18_0 : E := (.comp (.n 1) [1] (.e (.attr (.var 0) 0)) .nil (.tup (.cons (.bm .split (.var 1) .nil) (.cons (.ix (.attr (.var 0) 0) (.var 1)) .nil))))
def b18 : Ss := (.cons (.ret e18_0) .nil)
/-- Record.letters(self): 0=self 1=found 2=key 3=letter -/
def b19_0 : Ss := (.cons (.setIx (.var 1) (.var 3) (.bl true)) .nil)
def s19_1 : S := (.for (.n 3) (.e (.bm .split (.var 2) .nil)) b19_0)
def b19_2 : Ss := (.cons s19_1 .nil)
def s19_3 : S := (.for (.n 2) (.e (.attr (.var 0) 0)) b19_2)
def e19_4 : E := (.comp (.n 3) [3] (.e (.var 1)) .nil (.blt .str (.cons (.var 3) .nil)))
def b19 : Ss := (.cons (.set 1 true (.dict false .nil)) (.cons s19_3 (.cons (.frz 1) (.cons (.ret (.blt .sorted (.cons e19_4 .nil))) .nil))))
/-- Record.__add__(self, other): 0=self 1=other -/
def b20 : Ss := (.cons (.expr (.call 25 (.cons (.var 1) .nil))) (.cons (.ret (.new 6 (.cons (.bin .add (.attr (.var 0) 1) (.attr (.var 1) 1)) .nil))) .nil))
/-- Record.__mul__(self, other): 0=self 1=other 2=products 3=letters 4=many 5=more 6=often -/
def e21_0 : E := (.comp (.t [5, 6]) [5, 6] (.e (.attr (.var 1) 1)) .nil (.tup (.cons (.bin .add (.var 3) (.var 5)) (.cons (.bin .mul (.var 4) (.var 6)) .nil))))
def b21_1 : Ss := (.cons (.set 2 false (.bin .add (.var 2) e21_0)) .nil)
def s21_2 : S := (.for (.t [3, 4]) (.e (.attr (.var 0) 1)) b21_1)
def b21 : Ss := (.cons (.expr (.call 25 (.cons (.var 1) .nil))) (.cons (.set 2 false (.list .nil)) (.cons s21_2 (.cons (.ret (.new 6 (.cons (.var 2) .nil))) .nil))))
/-- Record.__le__(self, other): 0=self 1=other 2=key -/
def e22_0 : E := (.comp (.n 2) [2] (.e (.attr (.var 0) 0)) (.cons (.cmp .gt (.ix (.attr (.var 0) 0) (.var 2)) (.bm .get (.attr (.var 1) 0) (.cons (.var 2) (.cons (.int 0) .nil)))) .nil) (.var 2))
def b22 : Ss := (.cons (.expr (.call 25 (.cons (.var 1) .nil))) (.cons (.ret (.cmp .eq e22_0 (.list .nil))) .nil))
/-- Record.__eq__(self, other): 0=self 1=other -/
def b23 : Ss := (.cons (.ret (.bool true (.cons (.isin (.var 1) [.cls 6]) (.cons (.cmp .eq (.attr (.var 0) 0) (.attr (.var 1) 0)) .nil)))) .nil)
/-- Record.letter(name): 0=name -/
def b24 : Ss := (.cons (.expr (.call 8 (.cons (.var 0) .nil))) (.cons (.ret (.new 6 (.cons (.list (.cons (.tup (.cons (.list (.cons (.var 0) .nil)) (.cons (.int 1) .nil))) .nil)) .nil))) .nil))
/-- check_record(value): 0=value -/
def b25 : Ss := (.cons (.ite (.not (.isin (.var 0) [.cls 6])) (.cons (.raise 4 (.cons (.var 0) .nil)) .nil) .nil) .nil)
/-- is_square(value, size): 0=value 1=size 2=row -/
def e26_0 : E := (.comp (.n 2) [2] (.e (.var 0)) (.cons (.bool false (.cons (.not (.isin (.var 2) [.list])) (.cons (.cmp .ne (.blt .len (.cons (.var 2) .nil)) (.var 1)) .nil))) .nil) (.var 2))
def b26 : Ss := (.cons (.ite (.bool false (.cons (.not (.isin (.var 0) [.list])) (.cons (.cmp .ne (.blt .len (.cons (.var 0) .nil)) (.var 1)) .nil))) (.cons (.ret (.bl false)) .nil) .nil) (.cons (.ret (.cmp .eq e26_0 (.list .nil))) .nil))
/-- are_worths_in(table, size): 0=table 1=size 2=row 3=value -/
def b27_0 : Ss := (.cons (.ite (.bool false (.cons (.not (.call 6 (.cons (.var 3) .nil))) (.cons (.not (.chain .le .lt (.int 0) (.var 3) (.var 1))) .nil))) (.cons (.ret (.bl false)) .nil) .nil) .nil)
def s27_1 : S := (.for (.n 3) (.e (.var 2)) b27_0)
def b27_2 : Ss := (.cons s27_1 .nil)
def s27_3 : S := (.for (.n 2) (.e (.var 0)) b27_2)
def b27 : Ss := (.cons s27_3 (.cons (.ret (.bl true)) .nil))
/-- are_booleans(table): 0=table 1=row 2=one -/
def e28_0 : E := (.comp (.n 2) [2] (.e (.var 1)) (.cons (.not (.isin (.var 2) [.bool])) .nil) (.var 2))
def e28_1 : E := (.comp (.n 1) [1] (.e (.var 0)) (.cons (.cmp .ne e28_0 (.list .nil)) .nil) (.var 1))
def b28 : Ss := (.cons (.ret (.cmp .eq e28_1 (.list .nil))) .nil)
/-- are_tables(plus, times, order): 0=plus 1=times 2=order 3=size -/
def b29 : Ss := (.cons (.ite (.bool false (.cons (.not (.isin (.var 0) [.list])) (.cons (.not (.chain .le .le (.int 2) (.blt .len (.cons (.var 0) .nil)) (.glob 2))) .nil))) (.cons (.ret (.bl false)) .nil) .nil) (.cons (.set 3 false (.blt .len (.cons (.var 0) .nil))) (.cons (.ite (.bool false (.cons (.not (.call 26 (.cons (.var 0) (.cons (.var 3) .nil)))) (.cons (.not (.call 26 (.cons (.var 1) (.cons (.var 3) .nil)))) (.cons (.not (.call 26 (.cons (.var 2) (.cons (.var 3) .nil)))) .nil)))) (.cons (.ret (.bl false)) .nil) .nil) (.cons (.ret (.bool true (.cons (.call 27 (.cons (.var 0) (.cons (.var 3) .nil))) (.cons (.call 27 (.cons (.var 1) (.cons (.var 3) .nil))) (.cons (.call 28 (.cons (.var 2) .nil)) .nil))))) .nil))))
/-- is_passed_on(order, a, b): 0=order 1=a 2=b 3=c -/
def e30_0 : E := (.comp (.n 3) [3] (.rng1 (.blt .len (.cons (.var 0) .nil))) (.cons (.bool true (.cons (.ix (.ix (.var 0) (.var 2)) (.var 3)) (.cons (.not (.ix (.ix (.var 0) (.var 1)) (.var 3))) .nil))) .nil) (.var 3))
def b30 : Ss := (.cons (.ret (.cmp .eq e30_0 (.list .nil))) .nil)
/-- is_order(order): 0=order 1=a 2=b -/
def b31_0 : Ss := (.cons (.ite (.bool true (.cons (.ix (.ix (.var 0) (.var 1)) (.var 2)) (.cons (.bool false (.cons (.bool true (.cons (.cmp .ne (.var 1) (.var 2)) (.cons (.ix (.ix (.var 0) (.var 2)) (.var 1)) .nil))) (.cons (.not (.call 30 (.cons (.var 0) (.cons (.var 1) (.cons (.var 2) .nil))))) .nil))) .nil))) (.cons (.ret (.bl false)) .nil) .nil) .nil)
def s31_1 : S := (.for (.n 2) (.rng1 (.blt .len (.cons (.var 0) .nil))) b31_0)
def b31_2 : Ss := (.cons (.ite (.bool false (.cons (.not (.ix (.ix (.var 0) (.var 1)) (.var 1))) (.cons (.not (.ix (.ix (.var 0) (.int 0)) (.var 1))) .nil))) (.cons (.ret (.bl false)) .nil) .nil) (.cons s31_1 .nil))
def s31_3 : S := (.for (.n 1) (.rng1 (.blt .len (.cons (.var 0) .nil))) b31_2)
def b31 : Ss := (.cons s31_3 (.cons (.ret (.bl true)) .nil))
/-- is_even(table): 0=table 1=a 2=b 3=c -/
def e32_0 : E := (.comp (.n 3) [3] (.rng1 (.blt .len (.cons (.var 0) .nil))) (.cons (.cmp .ne (.ix (.ix (.var 0) (.ix (.ix (.var 0) (.var 1)) (.var 2))) (.var 3)) (.ix (.ix (.var 0) (.var 1)) (.ix (.ix (.var 0) (.var 2)) (.var 3)))) .nil) (.var 3))
def b32_1 : Ss := (.cons (.ite (.cmp .ne (.ix (.ix (.var 0) (.var 1)) (.var 2)) (.ix (.ix (.var 0) (.var 2)) (.var 1))) (.cons (.ret (.bl false)) .nil) .nil) (.cons (.ite (.cmp .ne e32_0 (.list .nil)) (.cons (.ret (.bl false)) .nil) .nil) .nil))
def s32_2 : S := (.for (.n 2) (.rng1 (.blt .len (.cons (.var 0) .nil))) b32_1)
def b32_3 : Ss := (.cons s32_2 .nil)
def s32_4 : S := (.for (.n 1) (.rng1 (.blt .len (.cons (.var 0) .nil))) b32_3)
def b32 : Ss := (.cons s32_4 (.cons (.ret (.bl true)) .nil))
/-- is_spread(plus, times): 0=plus 1=times 2=a 3=b 4=c -/
def e33_0 : E := (.comp (.n 4) [4] (.rng1 (.blt .len (.cons (.var 0) .nil))) (.cons (.cmp .ne (.ix (.ix (.var 1) (.var 2)) (.ix (.ix (.var 0) (.var 3)) (.var 4))) (.ix (.ix (.var 0) (.ix (.ix (.var 1) (.var 2)) (.var 3))) (.ix (.ix (.var 1) (.var 2)) (.var 4)))) .nil) (.var 4))
def b33_1 : Ss := (.cons (.ite (.cmp .ne e33_0 (.list .nil)) (.cons (.ret (.bl false)) .nil) .nil) .nil)
def s33_2 : S := (.for (.n 3) (.rng1 (.blt .len (.cons (.var 0) .nil))) b33_1)
def b33_3 : Ss := (.cons (.ite (.bool false (.cons (.cmp .ne (.ix (.ix (.var 0) (.int 0)) (.var 2)) (.var 2)) (.cons (.cmp .ne (.ix (.ix (.var 1) (.int 1)) (.var 2)) (.var 2)) (.cons (.cmp .ne (.ix (.ix (.var 1) (.int 0)) (.var 2)) (.int 0)) .nil)))) (.cons (.ret (.bl false)) .nil) .nil) (.cons s33_2 .nil))
def s33_4 : S := (.for (.n 2) (.rng1 (.blt .len (.cons (.var 0) .nil))) b33_3)
def b33 : Ss := (.cons s33_4 (.cons (.ret (.bl true)) .nil))
/-- is_kept(table, order): 0=table 1=order 2=a 3=b 4=c -/
def e34_0 : E := (.comp (.n 4) [4] (.rng1 (.blt .len (.cons (.var 1) .nil))) (.cons (.not (.ix (.ix (.var 1) (.ix (.ix (.var 0) (.var 2)) (.var 4))) (.ix (.ix (.var 0) (.var 3)) (.var 4)))) .nil) (.var 4))
def b34_1 : Ss := (.cons (.ite (.bool true (.cons (.ix (.ix (.var 1) (.var 2)) (.var 3)) (.cons (.cmp .ne e34_0 (.list .nil)) .nil))) (.cons (.ret (.bl false)) .nil) .nil) .nil)
def s34_2 : S := (.for (.n 3) (.rng1 (.blt .len (.cons (.var 1) .nil))) b34_1)
def b34_3 : Ss := (.cons s34_2 .nil)
def s34_4 : S := (.for (.n 2) (.rng1 (.blt .len (.cons (.var 1) .nil))) b34_3)
def b34 : Ss := (.cons s34_4 (.cons (.ret (.bl true)) .nil))
/-- are_manner(plus, times, order): 0=plus 1=times 2=order -/
def b35 : Ss := (.cons (.ite (.not (.call 29 (.cons (.var 0) (.cons (.var 1) (.cons (.var 2) .nil))))) (.cons (.ret (.bl false)) .nil) .nil) (.cons (.ite (.bool false (.cons (.not (.call 31 (.cons (.var 2) .nil))) (.cons (.not (.call 32 (.cons (.var 0) .nil))) (.cons (.not (.call 32 (.cons (.var 1) .nil))) (.cons (.not (.call 33 (.cons (.var 0) (.cons (.var 1) .nil)))) .nil))))) (.cons (.ret (.bl false)) .nil) .nil) (.cons (.ret (.bool true (.cons (.call 34 (.cons (.var 0) (.cons (.var 2) .nil))) (.cons (.call 34 (.cons (.var 1) (.cons (.var 2) .nil))) .nil)))) .nil)))
/-- kept_axioms(plus, times, order): 0=plus 1=times 2=order 3=kept 4=a 5=product -/
def b36_0 : Ss := (.cons (.setIx (.var 3) (.str ("falls" : Str)) (.bool true (.cons (.ix (.var 3) (.str ("falls" : Str))) (.cons (.ix (.ix (.var 2) (.var 5)) (.var 4)) .nil)))) (.cons (.setIx (.var 3) (.str ("grows" : Str)) (.bool true (.cons (.ix (.var 3) (.str ("grows" : Str))) (.cons (.ix (.ix (.var 2) (.var 5)) (.ix (.ix (.var 1) (.var 4)) (.var 5))) .nil)))) .nil))
def s36_1 : S := (.for (.n 5) (.e (.ix (.var 1) (.var 4))) b36_0)
def b36_2 : Ss := (.cons (.setIx (.var 3) (.str ("once" : Str)) (.bool true (.cons (.ix (.var 3) (.str ("once" : Str))) (.cons (.cmp .eq (.ix (.ix (.var 0) (.var 4)) (.var 4)) (.var 4)) .nil)))) (.cons (.setIx (.var 3) (.str ("same" : Str)) (.bool true (.cons (.ix (.var 3) (.str ("same" : Str))) (.cons (.cmp .eq (.ix (.ix (.var 1) (.var 4)) (.var 4)) (.var 4)) .nil)))) (.cons s36_1 .nil)))
def s36_3 : S := (.for (.n 4) (.rng1 (.blt .len (.cons (.var 0) .nil))) b36_2)
def b36 : Ss := (.cons (.set 3 true (.dict false (.cons (.str ("falls" : Str)) (.bl true) (.cons (.str ("grows" : Str)) (.bl true) (.cons (.str ("once" : Str)) (.bl true) (.cons (.str ("same" : Str)) (.bl true) .nil)))))) (.cons s36_3 (.cons (.ret (.var 3)) .nil)))
/-- is_number(value): 0=value -/
def b37 : Ss := (.cons (.ret (.bool true (.cons (.call 6 (.cons (.var 0) .nil)) (.cons (.cmp .ge (.var 0) (.int 0)) .nil)))) .nil)
/-- is_name_set(value): 0=value 1=name 2=at -/
def e38_0 : E := (.comp (.n 1) [1] (.e (.var 0)) (.cons (.not (.call 7 (.cons (.var 1) .nil))) .nil) (.var 1))
def e38_1 : E := (.comp (.n 2) [2] (.rng2 (.int 1) (.blt .len (.cons (.var 0) .nil))) (.cons (.cmp .ge (.ix (.var 0) (.bin .sub (.var 2) (.int 1))) (.ix (.var 0) (.var 2))) .nil) (.var 2))
def b38 : Ss := (.cons (.ite (.bool false (.cons (.not (.isin (.var 0) [.tuple])) (.cons (.cmp .ne e38_0 (.list .nil)) .nil))) (.cons (.ret (.bl false)) .nil) .nil) (.cons (.ret (.cmp .eq e38_1 (.list .nil))) .nil))
/-- are_name_sets(value): 0=value 1=names 2=at -/
def e39_0 : E := (.comp (.n 1) [1] (.e (.var 0)) (.cons (.not (.call 38 (.cons (.var 1) .nil))) .nil) (.var 1))
def e39_1 : E := (.comp (.n 2) [2] (.rng2 (.int 1) (.blt .len (.cons (.var 0) .nil))) (.cons (.cmp .ge (.ix (.var 0) (.bin .sub (.var 2) (.int 1))) (.ix (.var 0) (.var 2))) .nil) (.var 2))
def b39 : Ss := (.cons (.ite (.bool false (.cons (.not (.isin (.var 0) [.tuple])) (.cons (.cmp .ne e39_0 (.list .nil)) .nil))) (.cons (.ret (.bl false)) .nil) .nil) (.cons (.ret (.cmp .eq e39_1 (.list .nil))) .nil))
/-- is_worth_in(name, value): 0=name 1=value -/
def b40 : Ss := (.cons (.ite (.cmp .eq (.var 0) (.str ("yes" : Str))) (.cons (.ret (.isin (.var 1) [.bool])) .nil) .nil) (.cons (.ite (.cmp .eq (.var 0) (.str ("weakest" : Str))) (.cons (.ret (.bool true (.cons (.call 37 (.cons (.var 1) .nil)) (.cons (.cmp .le (.var 1) (.glob 3)) .nil)))) .nil) .nil) (.cons (.ite (.cmp .eq (.var 0) (.str ("rows" : Str))) (.cons (.ret (.bool false (.cons (.cmp .is (.var 1) .non) (.cons (.call 38 (.cons (.var 1) .nil)) .nil)))) .nil) .nil) (.cons (.ite (.cmp .eq (.var 0) (.str ("reasons" : Str))) (.cons (.ret (.call 39 (.cons (.var 1) .nil))) .nil) .nil) (.cons (.ite (.cmp .eq (.var 0) (.str ("record" : Str))) (.cons (.ret (.isin (.var 1) [.cls 6])) .nil) .nil) (.cons (.ite (.cmp .eq (.var 0) (.str ("surest" : Str))) (.cons (.ret (.call 10 (.cons (.var 1) .nil))) .nil) .nil) (.cons (.ite (.cmp .eq (.var 0) (.str ("count" : Str))) (.cons (.ret (.call 37 (.cons (.var 1) .nil))) .nil) .nil) (.cons (.ret (.bool false (.cons (.cmp .is (.var 1) .non) (.cons (.call 37 (.cons (.var 1) .nil)) .nil)))) .nil))))))))
/-- joined_names(one, other): 0=one 1=other 2=found 3=name -/
def e41_0 : E := (.dcomp false (.n 3) [3] (.e (.bin .add (.var 0) (.var 1))) .nil (.var 3) (.bl true))
def e41_1 : E := (.comp (.n 3) [3] (.e (.var 2)) .nil (.blt .str (.cons (.var 3) .nil)))
def b41 : Ss := (.cons (.set 2 false e41_0) (.cons (.ret (.blt .tuple (.cons (.blt .sorted (.cons e41_1 .nil)) .nil))) .nil))
/-- inserted(found, names): 0=found 1=names 2=at 3=one -/
def e42_0 : E := (.comp (.n 3) [3] (.e (.var 0)) (.cons (.cmp .lt (.var 3) (.var 1)) .nil) (.var 3))
def b42 : Ss := (.cons (.ite (.cmp .isin (.var 1) (.var 0)) (.cons (.ret (.var 0)) .nil) .nil) (.cons (.set 2 false (.blt .len (.cons e42_0 .nil))) (.cons (.ret (.bin .add (.bin .add (.slice (.var 0) .nil (.cons (.var 2) .nil)) (.list (.cons (.var 1) .nil))) (.slice (.var 0) (.cons (.var 2) .nil) .nil))) .nil)))
/-- all_sets(sets): 0=sets 1=found 2=names -/
def b43_0 : Ss := (.cons (.set 1 false (.call 42 (.cons (.var 1) (.cons (.var 2) .nil)))) .nil)
def s43_1 : S := (.for (.n 2) (.e (.var 0)) b43_0)
def b43 : Ss := (.cons (.set 1 false (.list .nil)) (.cons s43_1 (.cons (.ret (.blt .tuple (.cons (.var 1) .nil))) .nil)))
/-- all_joins(one, other): 0=one 1=other 2=sets 3=names 4=more -/
def e44_0 : E := (.comp (.n 4) [4] (.e (.var 1)) .nil (.call 41 (.cons (.var 3) (.cons (.var 4) .nil))))
def b44_1 : Ss := (.cons (.set 2 false (.bin .add (.var 2) e44_0)) .nil)
def s44_2 : S := (.for (.n 3) (.e (.var 0)) b44_1)
def b44 : Ss := (.cons (.set 2 false (.list .nil)) (.cons s44_2 (.cons (.ret (.call 43 (.cons (.var 2) .nil))) .nil)))
/-- greater_of(one, other): 0=one 1=other -/
def b45 : Ss := (.cons (.ite (.bool false (.cons (.cmp .is (.var 0) .non) (.cons (.bool true (.cons (.cmp .isnot (.var 1) .non) (.cons (.cmp .lt (.var 0) (.var 1)) .nil))) .nil))) (.cons (.ret (.var 1)) .nil) .nil) (.cons (.ret (.var 0)) .nil))
/-- lesser_of(one, other): 0=one 1=other -/
def b46 : Ss := (.cons (.ite (.bool false (.cons (.cmp .is (.var 0) .non) (.cons (.bool true (.cons (.cmp .isnot (.var 1) .non) (.cons (.cmp .lt (.var 1) (.var 0)) .nil))) .nil))) (.cons (.ret (.var 1)) .nil) .nil) (.cons (.ret (.var 0)) .nil))
/-- sum_in(name, one, other): 0=name 1=one 2=other -/
def b47 : Ss := (.cons (.ite (.cmp .eq (.var 0) (.str ("yes" : Str))) (.cons (.ret (.bool false (.cons (.var 1) (.cons (.var 2) .nil)))) .nil) .nil) (.cons (.ite (.cmp .isin (.var 0) (.tup (.cons (.str ("weakest" : Str)) (.cons (.str ("dearest" : Str)) .nil)))) (.cons (.ret (.call 45 (.cons (.var 1) (.cons (.var 2) .nil)))) .nil) .nil) (.cons (.ite (.cmp .eq (.var 0) (.str ("cheapest" : Str))) (.cons (.ret (.call 46 (.cons (.var 1) (.cons (.var 2) .nil)))) .nil) .nil) (.cons (.ite (.cmp .eq (.var 0) (.str ("rows" : Str))) (.cons (.ite (.bool false (.cons (.cmp .is (.var 1) .non) (.cons (.cmp .is (.var 2) .non) .nil))) (.cons (.ret (.ite (.cmp .is (.var 1) .non) (.var 2) (.var 1))) .nil) .nil) (.cons (.ret (.call 41 (.cons (.var 1) (.cons (.var 2) .nil)))) .nil)) .nil) (.cons (.ite (.cmp .eq (.var 0) (.str ("reasons" : Str))) (.cons (.ret (.call 43 (.cons (.bin .add (.var 1) (.var 2)) .nil))) .nil) .nil) (.cons (.ite (.cmp .eq (.var 0) (.str ("surest" : Str))) (.cons (.ret (.ite (.call 12 (.cons (.var 1) (.cons (.var 2) .nil))) (.var 2) (.var 1))) .nil) .nil) (.cons (.ret (.bin .add (.var 1) (.var 2))) .nil)))))))
/-- product_in(name, one, other): 0=name 1=one 2=other -/
def b48 : Ss := (.cons (.ite (.cmp .eq (.var 0) (.str ("yes" : Str))) (.cons (.ret (.bool true (.cons (.var 1) (.cons (.var 2) .nil)))) .nil) .nil) (.cons (.ite (.cmp .eq (.var 0) (.str ("weakest" : Str))) (.cons (.ret (.call 46 (.cons (.var 1) (.cons (.var 2) .nil)))) .nil) .nil) (.cons (.ite (.cmp .eq (.var 0) (.str ("reasons" : Str))) (.cons (.ret (.call 44 (.cons (.var 1) (.cons (.var 2) .nil)))) .nil) .nil) (.cons (.ite (.cmp .eq (.var 0) (.str ("surest" : Str))) (.cons (.ret (.call 11 (.cons (.var 1) (.cons (.var 2) .nil)))) .nil) .nil) (.cons (.ite (.cmp .isin (.var 0) (.tup (.cons (.str ("record" : Str)) (.cons (.str ("count" : Str)) .nil)))) (.cons (.ret (.bin .mul (.var 1) (.var 2))) .nil) .nil) (.cons (.ite (.bool false (.cons (.cmp .is (.var 1) .non) (.cons (.cmp .is (.var 2) .non) .nil))) (.cons (.ret .non) .nil) .nil) (.cons (.ite (.cmp .eq (.var 0) (.str ("rows" : Str))) (.cons (.ret (.call 41 (.cons (.var 1) (.cons (.var 2) .nil)))) .nil) .nil) (.cons (.ret (.bin .add (.var 1) (.var 2))) .nil))))))))
/-- zero_of(name): 0=name 1=zeros -/
def b49 : Ss := (.cons (.set 1 false (.dict false (.cons (.str ("yes" : Str)) (.bl false) (.cons (.str ("weakest" : Str)) (.int 0) (.cons (.str ("reasons" : Str)) (.tup .nil) (.cons (.str ("surest" : Str)) (.tup (.cons (.int 0) (.cons (.int 1) .nil))) (.cons (.str ("count" : Str)) (.int 0) .nil))))))) (.cons (.ite (.cmp .eq (.var 0) (.str ("record" : Str))) (.cons (.ret (.new 6 (.cons (.list .nil) .nil))) .nil) .nil) (.cons (.ret (.bm .get (.var 1) (.cons (.var 0) .nil))) .nil)))
/-- one_of(name): 0=name 1=ones -/
def b50 : Ss := (.cons (.set 1 false (.dict false (.cons (.str ("yes" : Str)) (.bl true) (.cons (.str ("weakest" : Str)) (.glob 3) (.cons (.str ("rows" : Str)) (.tup .nil) (.cons (.str ("reasons" : Str)) (.tup (.cons (.tup .nil) .nil)) (.cons (.str ("surest" : Str)) (.tup (.cons (.int 1) (.cons (.int 1) .nil))) (.cons (.str ("count" : Str)) (.int 1) .nil)))))))) (.cons (.ite (.cmp .eq (.var 0) (.str ("record" : Str))) (.cons (.ret (.new 6 (.cons (.list (.cons (.tup (.cons (.list .nil) (.cons (.int 1) .nil))) .nil)) .nil))) .nil) .nil) (.cons (.ret (.bm .get (.var 1) (.cons (.var 0) (.cons (.int 0) .nil)))) .nil)))
/-- Manner.__init__(self, name): 0=self 1=name -/
def b51 : Ss := (.cons (.ite (.bool false (.cons (.not (.isin (.var 1) [.str])) (.cons (.kin true (.var 1) 0) .nil))) (.cons (.raise 1 (.cons (.var 1) .nil)) .nil) .nil) (.cons (.setF (.var 0) 2 (.var 1)) .nil))
/-- Manner.name(self): 0=self -/
def b52 : Ss := (.cons (.ret (.attr (.var 0) 2)) .nil)
/-- Manner.zero(self): 0=self -/
def b53 : Ss := (.cons (.ret (.call 49 (.cons (.attr (.var 0) 2) .nil))) .nil)
/-- Manner.one(self): 0=self -/
def b54 : Ss := (.cons (.ret (.call 50 (.cons (.attr (.var 0) 2) .nil))) .nil)
/-- Manner.axioms(self): 0=self -/
def b55 : Ss := (.cons (.ret (.blt .list (.cons (.ix (.glob 5) (.attr (.var 0) 2)) .nil))) .nil)
/-- Manner.is_worth(self, value): 0=self 1=value -/
def b56 : Ss := (.cons (.ret (.call 40 (.cons (.attr (.var 0) 2) (.cons (.var 1) .nil)))) .nil)
/-- Manner.check_worth(self, value): 0=self 1=value -/
def b57 : Ss := (.cons (.ite (.not (.call 40 (.cons (.attr (.var 0) 2) (.cons (.var 1) .nil)))) (.cons (.raise 2 (.cons (.var 1) .nil)) .nil) .nil) .nil)
/-- Manner.plus(self, a, b): 0=self 1=a 2=b -/
def b58 : Ss := (.cons (.expr (.meth 7 (.var 0) (.cons (.var 1) .nil))) (.cons (.expr (.meth 7 (.var 0) (.cons (.var 2) .nil))) (.cons (.ret (.call 47 (.cons (.attr (.var 0) 2) (.cons (.var 1) (.cons (.var 2) .nil))))) .nil)))
/-- Manner.times(self, a, b): 0=self 1=a 2=b -/
def b59 : Ss := (.cons (.expr (.meth 7 (.var 0) (.cons (.var 1) .nil))) (.cons (.expr (.meth 7 (.var 0) (.cons (.var 2) .nil))) (.cons (.ret (.call 48 (.cons (.attr (.var 0) 2) (.cons (.var 1) (.cons (.var 2) .nil))))) .nil)))
/-- Manner.at_most(self, a, b): 0=self 1=a 2=b -/
def b60 : Ss := (.cons (.expr (.call 0 (.cons (.int 0) .nil))) .nil)
/-- Manner.__eq__(self, other): 0=self 1=other -/
def b61 : Ss := (.cons (.ret (.bool true (.cons (.isin (.var 1) [.cls 7]) (.cons (.cmp .eq (.attr (.var 0) 2) (.attr (.var 1) 2)) .nil)))) .nil)
/-- TableManner.__init__(self, plus, times, order): 0=self 1=plus 2=times 3=order 4=row -/
def e62_0 : E := (.comp (.n 4) [4] (.e (.var 1)) .nil (.blt .list (.cons (.var 4) .nil)))
def e62_1 : E := (.comp (.n 4) [4] (.e (.var 2)) .nil (.blt .list (.cons (.var 4) .nil)))
def e62_2 : E := (.comp (.n 4) [4] (.e (.var 3)) .nil (.blt .list (.cons (.var 4) .nil)))
def b62 : Ss := (.cons (.ite (.not (.call 35 (.cons (.var 1) (.cons (.var 2) (.cons (.var 3) .nil))))) (.cons (.raise 1 (.cons (.tup (.cons (.var 1) (.cons (.var 2) (.cons (.var 3) .nil)))) .nil)) .nil) .nil) (.cons (.setF (.var 0) 0 e62_0) (.cons (.setF (.var 0) 3 e62_1) (.cons (.setF (.var 0) 4 e62_2) (.cons (.setF (.var 0) 2 (.str ("table" : Str))) .nil)))))
/-- TableManner.table(self): 0=self 1=tables 2=row 3=table -/
def e63_0 : E := (.comp (.n 2) [2] (.e (.var 3)) .nil (.blt .list (.cons (.var 2) .nil)))
def e63_1 : E := (.comp (.n 3) [3] (.e (.var 1)) .nil e63_0)
def b63 : Ss := (.cons (.set 1 false (.tup (.cons (.attr (.var 0) 0) (.cons (.attr (.var 0) 3) (.cons (.attr (.var 0) 4) .nil))))) (.cons (.ret (.blt .tuple (.cons e63_1 .nil))) .nil))
/-- TableManner.zero(self): 0=self -/
def b64 : Ss := (.cons (.ret (.int 0)) .nil)
/-- TableManner.one(self): 0=self -/
def b65 : Ss := (.cons (.ret (.int 1)) .nil)
/-- TableManner.axioms(self): 0=self 1=kept 2=axiom -/
def e66_0 : E := (.comp (.n 2) [2] (.e (.glob 4)) (.cons (.ix (.var 1) (.var 2)) .nil) (.var 2))
def b66 : Ss := (.cons (.set 1 false (.call 36 (.cons (.attr (.var 0) 0) (.cons (.attr (.var 0) 3) (.cons (.attr (.var 0) 4) .nil))))) (.cons (.ret e66_0) .nil))
/-- TableManner.is_worth(self, value): 0=self 1=value -/
def b67 : Ss := (.cons (.ret (.bool true (.cons (.call 37 (.cons (.var 1) .nil)) (.cons (.cmp .lt (.var 1) (.blt .len (.cons (.attr (.var 0) 0) .nil))) .nil)))) .nil)
/-- TableManner.check_worth(self, value): 0=self 1=value -/
def b68 : Ss := (.cons (.ite (.not (.meth 8 (.var 0) (.cons (.var 1) .nil))) (.cons (.raise 2 (.cons (.var 1) .nil)) .nil) .nil) .nil)
/-- TableManner.plus(self, a, b): 0=self 1=a 2=b -/
def b69 : Ss := (.cons (.expr (.meth 7 (.var 0) (.cons (.var 1) .nil))) (.cons (.expr (.meth 7 (.var 0) (.cons (.var 2) .nil))) (.cons (.ret (.ix (.ix (.attr (.var 0) 0) (.var 1)) (.var 2))) .nil)))
/-- TableManner.times(self, a, b): 0=self 1=a 2=b -/
def b70 : Ss := (.cons (.expr (.meth 7 (.var 0) (.cons (.var 1) .nil))) (.cons (.expr (.meth 7 (.var 0) (.cons (.var 2) .nil))) (.cons (.ret (.ix (.ix (.attr (.var 0) 3) (.var 1)) (.var 2))) .nil)))
/-- TableManner.at_most(self, a, b): 0=self 1=a 2=b -/
def b71 : Ss := (.cons (.expr (.call 0 (.cons (.int 1) .nil))) .nil)
/-- TableManner.__eq__(self, other): 0=self 1=other -/
def b72 : Ss := (.cons (.ret (.bool true (.cons (.isin (.var 1) [.cls 8]) (.cons (.cmp .eq (.attr (.var 0) 5) (.attr (.var 1) 5)) .nil)))) .nil)
/-- all_axioms(axioms): 0=axioms 1=falls 2=same 3=kept 4=axiom -/
def e73_0 : E := (.comp (.n 4) [4] (.e (.glob 4)) (.cons (.ix (.var 3) (.var 4)) .nil) (.var 4))
def b73 : Ss := (.cons (.set 1 false (.cmp .isin (.str ("falls" : Str)) (.var 0))) (.cons (.set 2 false (.bool false (.cons (.cmp .isin (.str ("same" : Str)) (.var 0)) (.cons (.bool true (.cons (.var 1) (.cons (.cmp .isin (.str ("grows" : Str)) (.var 0)) .nil))) .nil)))) (.cons (.set 3 false (.dict false (.cons (.str ("falls" : Str)) (.var 1) (.cons (.str ("same" : Str)) (.var 2) (.cons (.str ("once" : Str)) (.bool false (.cons (.var 1) (.cons (.cmp .isin (.str ("once" : Str)) (.var 0)) .nil))) (.cons (.str ("grows" : Str)) (.bool false (.cons (.var 2) (.cons (.cmp .isin (.str ("grows" : Str)) (.var 0)) .nil))) .nil)))))) (.cons (.ret e73_0) .nil))))
/-- are_axioms(value): 0=value 1=one 2=found -/
def e74_0 : E := (.comp (.n 1) [1] (.e (.var 0)) (.cons (.bool false (.cons (.not (.isin (.var 1) [.str])) (.cons (.cmp .notin (.var 1) (.glob 4)) .nil))) .nil) (.var 1))
def b74 : Ss := (.cons (.ite (.not (.isin (.var 0) [.list])) (.cons (.ret (.bl false)) .nil) .nil) (.cons (.ite (.cmp .ne e74_0 (.list .nil)) (.cons (.ret (.bl false)) .nil) .nil) (.cons (.set 2 false (.call 73 (.cons (.var 0) .nil))) (.cons (.ret (.bool true (.cons (.cmp .eq (.blt .lenset (.cons (.var 0) .nil)) (.blt .len (.cons (.var 0) .nil))) (.cons (.bool false (.cons (.cmp .isin (.str ("once" : Str)) (.var 2)) (.cons (.cmp .notin (.str ("same" : Str)) (.var 2)) .nil))) .nil)))) .nil))))
/-- Sort.__init__(self, axioms): 0=self 1=axioms -/
def b75 : Ss := (.cons (.ite (.not (.call 74 (.cons (.var 1) .nil))) (.cons (.raise 3 (.cons (.var 1) .nil)) .nil) .nil) (.cons (.setF (.var 0) 6 (.blt .tuple (.cons (.call 73 (.cons (.var 1) .nil)) .nil))) .nil))
/-- Sort.axioms(self): 0=self -/
def b76 : Ss := (.cons (.ret (.blt .list (.cons (.attr (.var 0) 6) .nil))) .nil)
/-- Sort.__contains__(self, manner): 0=self 1=manner 2=kept 3=axiom -/
def e77_0 : E := (.comp (.n 3) [3] (.e (.attr (.var 0) 6)) (.cons (.cmp .notin (.var 3) (.var 2)) .nil) (.var 3))
def b77 : Ss := (.cons (.ite (.not (.call 79 (.cons (.var 1) .nil))) (.cons (.ret (.bl false)) .nil) .nil) (.cons (.set 2 false (.attr (.var 1) 7)) (.cons (.ret (.cmp .eq e77_0 (.list .nil))) .nil)))
/-- Sort.__eq__(self, other): 0=self 1=other -/
def b78 : Ss := (.cons (.ret (.bool true (.cons (.isin (.var 1) [.cls 9]) (.cons (.cmp .eq (.attr (.var 0) 6) (.attr (.var 1) 6)) .nil)))) .nil)
/-- is_manner(value): 0=value -/
def b79 : Ss := (.cons (.ret (.isin (.var 0) [.cls 7, .cls 8])) .nil)
/-- _law_purse(_law_script, _law_at): 0=_law_script 1=_law_at 2=_law_cell -/
def b80 : Ss := (.cons (.set 2 false (.int 0)) (.cons (.ite (.cmp .lt (.var 1) (.blt .len (.cons (.var 0) .nil))) (.cons (.set 2 false (.ix (.var 0) (.var 1))) .nil) .nil) (.cons (.ret (.list (.cons (.bin .mod (.blt .int (.cons (.blt .max (.cons (.bin .sub (.var 2) (.bin .pow (.int 10) (.int 18))) (.cons (.int 0) .nil))) .nil)) (.bin .pow (.bin .pow (.int 10) (.int 40)) (.int 10))) (.cons (.bin .mod (.blt .int (.cons (.var 2) .nil)) (.int 2147483629)) (.cons (.int 0) .nil))))) .nil)))
/-- _law_draw(_law_purse_here, _law_many): 0=_law_purse_here 1=_law_many 2=_law_drawn 3=_law_turn 4=_law_number -/
def b81 : Ss := (.cons (.ite (.cmp .gt (.ix (.var 0) (.int 0)) (.int 0)) (.cons (.set 2 false (.bin .mod (.blt .int (.cons (.ix (.var 0) (.int 0)) .nil)) (.var 1))) (.cons (.setIx (.var 0) (.int 0) (.bin .fdiv (.ix (.var 0) (.int 0)) (.var 1))) (.cons (.ret (.var 2)) .nil))) .nil) (.cons (.set 3 false (.bin .add (.ix (.var 0) (.int 2)) (.int 1))) (.cons (.setIx (.var 0) (.int 2) (.var 3)) (.cons (.set 4 false (.bin .mod (.blt .int (.cons (.bin .mul (.bin .add (.ix (.var 0) (.int 1)) (.bin .mul (.int 104729) (.var 3))) (.bin .add (.bin .mul (.var 3) (.var 3)) (.int 7919))) .nil)) (.int 2147483629))) (.cons (.set 4 false (.bin .mod (.blt .int (.cons (.bin .add (.bin .mul (.var 4) (.var 4)) (.var 3)) .nil)) (.int 2147483587))) (.cons (.ret (.bin .mod (.bin .fdiv (.bin .mod (.blt .int (.cons (.bin .mul (.var 4) (.int 48271)) .nil)) (.int 2147483647)) (.int 64)) (.var 1))) .nil))))))
/-- _law_pick(_law_purse_here, _law_items): 0=_law_purse_here 1=_law_items -/
def b82 : Ss := (.cons (.ret (.ix (.var 1) (.call 81 (.cons (.var 0) (.cons (.blt .len (.cons (.var 1) .nil)) .nil))))) .nil)
/-- _law_sorts(): 0=_law_some -/
def b83 : Ss := (.cons (.set 0 false (.list (.cons (.list .nil) (.cons (.list (.cons (.str ("once" : Str)) .nil)) (.cons (.list (.cons (.str ("grows" : Str)) .nil)) (.cons (.list (.cons (.str ("grows" : Str)) (.cons (.str ("once" : Str)) .nil))) (.cons (.list (.cons (.str ("falls" : Str)) (.cons (.str ("once" : Str)) .nil))) (.cons (.list (.cons (.str ("grows" : Str)) (.cons (.str ("once" : Str)) (.cons (.str ("same" : Str)) .nil)))) .nil)))))))) (.cons (.ret (.bin .add (.var 0) (.list (.cons (.list (.cons (.str ("falls" : Str)) (.cons (.str ("grows" : Str)) (.cons (.str ("once" : Str)) (.cons (.str ("same" : Str)) .nil))))) .nil)))) .nil))
/-- _law_orders(): 0=_law_found 1=_law_at 2=_law_axiom -/
def b84_0 : Ss := (.cons (.ite (.cmp .notin (.var 2) (.ix (.var 0) (.var 1))) (.cons (.mut 0 .append (.cons (.bin .add (.ix (.var 0) (.var 1)) (.list (.cons (.var 2) .nil))) .nil)) .nil) .nil) .nil)
def s84_1 : S := (.for (.n 2) (.e (.list (.cons (.str ("once" : Str)) (.cons (.str ("falls" : Str)) (.cons (.str ("grows" : Str)) (.cons (.str ("same" : Str)) .nil)))))) b84_0)
def b84_2 : Ss := (.cons s84_1 (.cons (.set 1 false (.bin .add (.var 1) (.int 1))) .nil))
def s84_3 : S := (.while (.cmp .lt (.var 1) (.blt .len (.cons (.var 0) .nil))) b84_2)
def b84 : Ss := (.cons (.set 0 true (.list (.cons (.list .nil) .nil))) (.cons (.set 1 false (.int 0)) (.cons s84_3 (.cons (.ret (.var 0)) .nil))))
/-- _law_due(_law_axioms): 0=_law_axioms 1=_law_due_here 2=_law_one -/
def e85_0 : E := (.comp (.n 2) [2] (.e (.var 1)) .nil (.blt .str (.cons (.var 2) .nil)))
def b85 : Ss := (.cons (.set 1 true (.blt .list (.cons (.var 0) .nil))) (.cons (.ite (.bool true (.cons (.cmp .isin (.str ("falls" : Str)) (.var 1)) (.cons (.cmp .notin (.str ("once" : Str)) (.var 1)) .nil))) (.cons (.mut 1 .append (.cons (.str ("once" : Str)) .nil)) .nil) .nil) (.cons (.ite (.bool true (.cons (.cmp .isin (.str ("falls" : Str)) (.var 1)) (.cons (.cmp .isin (.str ("grows" : Str)) (.var 1)) (.cons (.cmp .notin (.str ("same" : Str)) (.var 1)) .nil)))) (.cons (.mut 1 .append (.cons (.str ("same" : Str)) .nil)) .nil) .nil) (.cons (.ite (.bool true (.cons (.cmp .isin (.str ("same" : Str)) (.var 1)) (.cons (.cmp .notin (.str ("grows" : Str)) (.var 1)) .nil))) (.cons (.mut 1 .append (.cons (.str ("grows" : Str)) .nil)) .nil) .nil) (.cons (.ite (.bool true (.cons (.cmp .isin (.str ("same" : Str)) (.var 1)) (.cons (.cmp .notin (.str ("once" : Str)) (.var 1)) .nil))) (.cons (.ret .non) .nil) .nil) (.cons (.frz 1) (.cons (.ret (.blt .sorted (.cons e85_0 .nil))) .nil)))))))
/-- _law_refused(_law_axioms): 0=_law_axioms 1=_law_due_here 2=_law_caught 3=error -/
def b86 : Ss := (.cons (.setP [(1, false), (2, false)] (.cons (.blt .repr (.cons (.var 0) .nil)) (.cons .non .nil))) (.cons (.try 3 3 (.cons (.expr (.new 9 (.cons (.var 0) .nil))) .nil) (.cons (.set 2 false (.var 3)) .nil)) (.cons (.ret (.bool true (.cons (.cmp .isnot (.var 2) .non) (.cons (.cmp .eq (.blt .repr (.cons (.attr (.var 2) 8) .nil)) (.var 1)) .nil)))) .nil)))
/-- law(_law_script): 0=_law_script 1=_law_purse_here 2=_law_many 3=_law_axioms 4=_law_due_here 5=_law_given 6=_law_made 7=_law_one 8=_law_odd -/
def e87_0 : E := (.comp (.n 7) [7] (.e (.call 83 .nil)) (.cons (.cmp .ne (.cmp .eq (.new 9 (.cons (.var 7) .nil)) (.var 6)) (.cmp .eq (.var 7) (.var 4))) .nil) (.var 7))
def e87_1 : E := (.comp (.n 8) [8] (.e (.list (.cons .non (.cons (.str ("yes" : Str)) (.cons (.var 6) (.cons (.int 0) (.cons (.str ("count" : Str)) .nil))))))) .nil (.cmp .isin (.var 8) (.var 6)))
def b87_2 : Ss := (.cons (.setP [(4, false), (5, false)] (.cons (.call 85 (.cons (.var 3) .nil)) (.cons (.cell (.blt .list (.cons (.var 3) .nil))) .nil))) (.cons (.ite (.cmp .is (.var 4) .non) (.cons (.ite (.not (.call 86 (.cons (.var 3) .nil))) (.cons (.ret (.bl false)) .nil) .nil) .nil) (.cons (.set 6 false (.new 9 (.cons (.var 5) .nil))) (.cons (.ite (.bool false (.cons (.cmp .ne (.var 5) (.var 3)) (.cons (.bool true (.cons (.cmp .ne (.var 3) (.list .nil)) (.cons (.not (.call 86 (.cons (.bin .add (.var 3) (.slice (.var 3) .nil (.cons (.int 1) .nil))) .nil))) .nil))) .nil))) (.cons (.ret (.bl false)) .nil) .nil) (.cons (.expr (.bm .append (.var 5) (.cons (.str ("falls" : Str)) .nil))) (.cons (.expr (.bm .append (.cell (.attr (.var 6) 7)) (.cons (.str ("more" : Str)) .nil))) (.cons (.ite (.bool false (.cons (.cmp .ne (.attr (.var 6) 7) (.var 4)) (.cons (.cmp .eq (.var 6) (.var 4)) (.cons (.cmp .ne (.var 6) (.new 9 (.cons (.var 4) .nil))) .nil)))) (.cons (.ret (.bl false)) .nil) .nil) (.cons (.ite (.cmp .ne e87_0 (.list .nil)) (.cons (.ret (.bl false)) .nil) .nil) (.cons (.set 2 false (.bin .add (.var 2) (.bin .mul (.list (.cons (.var 4) .nil)) (.blt .int (.cons (.cmp .notin (.var 4) (.var 2)) .nil))))) (.cons (.ite (.cmp .ne e87_1 (.bin .mul (.list (.cons (.bl false) .nil)) (.int 5))) (.cons (.ret (.bl false)) .nil) .nil) .nil))))))))) .nil))
def s87_3 : S := (.for (.n 3) (.e (.call 84 .nil)) b87_2)
def b87_4 : Ss := (.cons (.ite (.not (.call 86 (.cons (.var 7) .nil))) (.cons (.ret (.bl false)) .nil) .nil) .nil)
def s87_5 : S := (.for (.n 7) (.e (.list (.cons (.var 8) (.cons (.list (.cons (.str ("falls" : Str)) (.cons (.str ("falls" : Str)) .nil))) (.cons (.dict false (.cons (.str ("once" : Str)) (.int 1) .nil)) (.cons (.list (.cons (.str ("once" : Str)) (.cons (.str ("" : Str)) (.cons (.str ("grows" : Str)) .nil)))) (.cons (.int 0) (.cons (.list (.cons (.str ("add" : Str)) .nil)) (.cons (.tup (.cons (.str ("grows" : Str)) (.cons (.str ("once" : Str)) .nil))) .nil))))))))) b87_4)
def e87_6 : E := (.comp (.n 7) [7] (.e (.call 83 .nil)) (.cons (.cmp .notin (.var 7) (.var 2)) .nil) (.var 7))
def b87 : Ss := (.cons (.set 1 false (.cell (.call 80 (.cons (.var 0) (.cons (.int 0) .nil))))) (.cons (.set 2 false (.list .nil)) (.cons s87_3 (.cons (.set 8 false (.call 82 (.cons (.var 1) (.cons (.list (.cons .non (.cons (.tup (.cons (.str ("once" : Str)) .nil)) (.cons (.str ("once" : Str)) (.cons (.list (.cons (.str ("Once" : Str)) .nil)) (.cons (.list (.cons (.str ("once" : Str)) (.cons (.str ("once" : Str)) .nil))) (.cons (.list (.cons .non .nil)) (.cons (.list (.cons (.list (.cons (.str ("once" : Str)) .nil)) .nil)) (.cons (.dict false .nil) (.cons (.list (.cons (.str ("a" : Str)) (.cons (.int 1) .nil))) .nil)))))))))) .nil)))) (.cons s87_5 (.cons (.ret (.bool true (.cons (.cmp .eq (.blt .len (.cons (.var 2) .nil)) (.int 7)) (.cons (.cmp .eq e87_6 (.list .nil)) .nil)))) .nil))))))
def r0 : FnR := { nm := ("_wall" : Str), at_ := .glo ("_wall" : Str), name := ("_wall" : Str), qual := ("_wall" : Str), st := (top 0), N := [("k" : Str)], ps := [("k" : Str)], b := b0 }
def r1 : FnR := { nm := Str.empty, at_ := .glo ("_wall" : Str), name := ("_wall" : Str), qual := ("_wall" : Str), st := (top 0), N := [("k" : Str)], ps := [("k" : Str)], b := b0 }
def r2 : FnR := { nm := Str.empty, at_ := .glo ("_wall" : Str), name := ("_wall" : Str), qual := ("_wall" : Str), st := (top 0), N := [("k" : Str)], ps := [("k" : Str)], b := b0 }
def r3 : FnR := { nm := Str.empty, at_ := .glo ("_wall" : Str), name := ("_wall" : Str), qual := ("_wall" : Str), st := (top 0), N := [("k" : Str)], ps := [("k" : Str)], b := b0 }
def r4 : FnR := { nm := Str.empty, at_ := .glo ("_wall" : Str), name := ("_wall" : Str), qual := ("_wall" : Str), st := (top 0), N := [("k" : Str)], ps := [("k" : Str)], b := b0 }
def r5 : FnR := { nm := Str.empty, at_ := .glo ("_wall" : Str), name := ("_wall" : Str), qual := ("_wall" : Str), st := (top 0), N := [("k" : Str)], ps := [("k" : Str)], b := b0 }
def r6 : FnR := { nm := ("is_whole" : Str), at_ := .glo ("is_whole" : Str), name := ("is_whole" : Str), qual := ("is_whole" : Str), st := (top 11), N := [("value" : Str)], ps := [("value" : Str)], b := b6 }
def r7 : FnR := { nm := ("is_name" : Str), at_ := .glo ("is_name" : Str), name := ("is_name" : Str), qual := ("is_name" : Str), st := (top 12), N := [("value" : Str), ("letter" : Str)], ps := [("value" : Str)], b := b7 }
def r8 : FnR := { nm := ("check_name" : Str), at_ := .glo ("check_name" : Str), name := ("check_name" : Str), qual := ("check_name" : Str), st := (top 13), N := [("value" : Str)], ps := [("value" : Str)], b := b8 }
def r9 : FnR := { nm := ("common_divisor" : Str), at_ := .glo ("common_divisor" : Str), name := ("common_divisor" : Str), qual := ("common_divisor" : Str), st := (top 15), N := [("one" : Str), ("other" : Str)], ps := [("one" : Str), ("other" : Str)], b := b9 }
def r10 : FnR := { nm := ("is_fraction" : Str), at_ := .glo ("is_fraction" : Str), name := ("is_fraction" : Str), qual := ("is_fraction" : Str), st := (top 16), N := [("value" : Str), ("one" : Str)], ps := [("value" : Str)], b := b10 }
def r11 : FnR := { nm := ("times_fractions" : Str), at_ := .glo ("times_fractions" : Str), name := ("times_fractions" : Str), qual := ("times_fractions" : Str), st := (top 17), N := [("one" : Str), ("other" : Str), ("number" : Str), ("total" : Str), ("shared" : Str)], ps := [("one" : Str), ("other" : Str)], b := b11 }
def r12 : FnR := { nm := ("is_less_fraction" : Str), at_ := .glo ("is_less_fraction" : Str), name := ("is_less_fraction" : Str), qual := ("is_less_fraction" : Str), st := (top 18), N := [("one" : Str), ("other" : Str)], ps := [("one" : Str), ("other" : Str)], b := b12 }
def r13 : FnR := { nm := ("is_product" : Str), at_ := .glo ("is_product" : Str), name := ("is_product" : Str), qual := ("is_product" : Str), st := (top 20), N := [("value" : Str), ("letter" : Str)], ps := [("value" : Str)], b := b13 }
def r14 : FnR := { nm := ("is_products" : Str), at_ := .glo ("is_products" : Str), name := ("is_products" : Str), qual := ("is_products" : Str), st := (top 21), N := [("value" : Str), ("one" : Str)], ps := [("value" : Str)], b := b14 }
def r15 : FnR := { nm := ("key_of" : Str), at_ := .glo ("key_of" : Str), name := ("key_of" : Str), qual := ("key_of" : Str), st := (top 22), N := [("letters" : Str), ("letter" : Str)], ps := [("letters" : Str)], b := b15 }
def r16 : FnR := { nm := ("collected" : Str), at_ := .glo ("collected" : Str), name := ("collected" : Str), qual := ("collected" : Str), st := (top 23), N := [("products" : Str), ("found" : Str), ("letters" : Str), ("many" : Str), ("key" : Str), ("one" : Str)], ps := [("products" : Str)], b := b16 }
def r17 : FnR := { nm := Str.empty, at_ := .glo ("_wall" : Str), name := ("_wall" : Str), qual := ("_wall" : Str), st := (top 0), N := [("k" : Str)], ps := [("k" : Str)], b := b0 }
def r18 : FnR := { nm := Str.empty, at_ := .prop ("Record" : Str) ("terms" : Str), name := ("terms" : Str), qual := ("Record.terms" : Str), st := (inClass (top 24) 1), N := [("self" : Str), ("key" : Str)], ps := [("self" : Str)], b := b18 }
def r19 : FnR := { nm := Str.empty, at_ := .prop ("Record" : Str) ("letters" : Str), name := ("letters" : Str), qual := ("Record.letters" : Str), st := (inClass (top 24) 2), N := [("self" : Str), ("found" : Str), ("key" : Str), ("letter" : Str)], ps := [("self" : Str)], b := b19 }
def r20 : FnR := { nm := Str.empty, at_ := .meth ("Record" : Str) ("__add__" : Str), name := ("__add__" : Str), qual := ("Record.__add__" : Str), st := (inClass (top 24) 3), N := [("self" : Str), ("other" : Str)], ps := [("self" : Str), ("other" : Str)], b := b20 }
def r21 : FnR := { nm := Str.empty, at_ := .meth ("Record" : Str) ("__mul__" : Str), name := ("__mul__" : Str), qual := ("Record.__mul__" : Str), st := (inClass (top 24) 4), N := [("self" : Str), ("other" : Str), ("products" : Str), ("letters" : Str), ("many" : Str), ("more" : Str), ("often" : Str)], ps := [("self" : Str), ("other" : Str)], b := b21 }
def r22 : FnR := { nm := Str.empty, at_ := .meth ("Record" : Str) ("__le__" : Str), name := ("__le__" : Str), qual := ("Record.__le__" : Str), st := (inClass (top 24) 5), N := [("self" : Str), ("other" : Str), ("key" : Str)], ps := [("self" : Str), ("other" : Str)], b := b22 }
def r23 : FnR := { nm := Str.empty, at_ := .meth ("Record" : Str) ("__eq__" : Str), name := ("__eq__" : Str), qual := ("Record.__eq__" : Str), st := (inClass (top 24) 6), N := [("self" : Str), ("other" : Str)], ps := [("self" : Str), ("other" : Str)], b := b23 }
def r24 : FnR := { nm := Str.empty, at_ := .glo ("_wall" : Str), name := ("_wall" : Str), qual := ("_wall" : Str), st := (top 0), N := [("k" : Str)], ps := [("k" : Str)], b := b0 }
def r25 : FnR := { nm := ("check_record" : Str), at_ := .glo ("check_record" : Str), name := ("check_record" : Str), qual := ("check_record" : Str), st := (top 25), N := [("value" : Str)], ps := [("value" : Str)], b := b25 }
def r26 : FnR := { nm := ("is_square" : Str), at_ := .glo ("is_square" : Str), name := ("is_square" : Str), qual := ("is_square" : Str), st := (top 28), N := [("value" : Str), ("size" : Str), ("row" : Str)], ps := [("value" : Str), ("size" : Str)], b := b26 }
def r27 : FnR := { nm := ("are_worths_in" : Str), at_ := .glo ("are_worths_in" : Str), name := ("are_worths_in" : Str), qual := ("are_worths_in" : Str), st := (top 29), N := [("table" : Str), ("size" : Str), ("row" : Str), ("value" : Str)], ps := [("table" : Str), ("size" : Str)], b := b27 }
def r28 : FnR := { nm := ("are_booleans" : Str), at_ := .glo ("are_booleans" : Str), name := ("are_booleans" : Str), qual := ("are_booleans" : Str), st := (top 30), N := [("table" : Str), ("row" : Str), ("one" : Str)], ps := [("table" : Str)], b := b28 }
def r29 : FnR := { nm := ("are_tables" : Str), at_ := .glo ("are_tables" : Str), name := ("are_tables" : Str), qual := ("are_tables" : Str), st := (top 31), N := [("plus" : Str), ("times" : Str), ("order" : Str), ("size" : Str)], ps := [("plus" : Str), ("times" : Str), ("order" : Str)], b := b29 }
def r30 : FnR := { nm := ("is_passed_on" : Str), at_ := .glo ("is_passed_on" : Str), name := ("is_passed_on" : Str), qual := ("is_passed_on" : Str), st := (top 32), N := [("order" : Str), ("a" : Str), ("b" : Str), ("c" : Str)], ps := [("order" : Str), ("a" : Str), ("b" : Str)], b := b30 }
def r31 : FnR := { nm := ("is_order" : Str), at_ := .glo ("is_order" : Str), name := ("is_order" : Str), qual := ("is_order" : Str), st := (top 33), N := [("order" : Str), ("a" : Str), ("b" : Str)], ps := [("order" : Str)], b := b31 }
def r32 : FnR := { nm := ("is_even" : Str), at_ := .glo ("is_even" : Str), name := ("is_even" : Str), qual := ("is_even" : Str), st := (top 34), N := [("table" : Str), ("a" : Str), ("b" : Str), ("c" : Str)], ps := [("table" : Str)], b := b32 }
def r33 : FnR := { nm := ("is_spread" : Str), at_ := .glo ("is_spread" : Str), name := ("is_spread" : Str), qual := ("is_spread" : Str), st := (top 35), N := [("plus" : Str), ("times" : Str), ("a" : Str), ("b" : Str), ("c" : Str)], ps := [("plus" : Str), ("times" : Str)], b := b33 }
def r34 : FnR := { nm := ("is_kept" : Str), at_ := .glo ("is_kept" : Str), name := ("is_kept" : Str), qual := ("is_kept" : Str), st := (top 36), N := [("table" : Str), ("order" : Str), ("a" : Str), ("b" : Str), ("c" : Str)], ps := [("table" : Str), ("order" : Str)], b := b34 }
def r35 : FnR := { nm := ("are_manner" : Str), at_ := .glo ("are_manner" : Str), name := ("are_manner" : Str), qual := ("are_manner" : Str), st := (top 37), N := [("plus" : Str), ("times" : Str), ("order" : Str)], ps := [("plus" : Str), ("times" : Str), ("order" : Str)], b := b35 }
def r36 : FnR := { nm := ("kept_axioms" : Str), at_ := .glo ("kept_axioms" : Str), name := ("kept_axioms" : Str), qual := ("kept_axioms" : Str), st := (top 38), N := [("plus" : Str), ("times" : Str), ("order" : Str), ("kept" : Str), ("a" : Str), ("product" : Str)], ps := [("plus" : Str), ("times" : Str), ("order" : Str)], b := b36 }
def r37 : FnR := { nm := ("is_number" : Str), at_ := .glo ("is_number" : Str), name := ("is_number" : Str), qual := ("is_number" : Str), st := (top 43), N := [("value" : Str)], ps := [("value" : Str)], b := b37 }
def r38 : FnR := { nm := ("is_name_set" : Str), at_ := .glo ("is_name_set" : Str), name := ("is_name_set" : Str), qual := ("is_name_set" : Str), st := (top 44), N := [("value" : Str), ("name" : Str), ("at" : Str)], ps := [("value" : Str)], b := b38 }
def r39 : FnR := { nm := ("are_name_sets" : Str), at_ := .glo ("are_name_sets" : Str), name := ("are_name_sets" : Str), qual := ("are_name_sets" : Str), st := (top 45), N := [("value" : Str), ("names" : Str), ("at" : Str)], ps := [("value" : Str)], b := b39 }
def r40 : FnR := { nm := ("is_worth_in" : Str), at_ := .glo ("is_worth_in" : Str), name := ("is_worth_in" : Str), qual := ("is_worth_in" : Str), st := (top 46), N := [("name" : Str), ("value" : Str)], ps := [("name" : Str), ("value" : Str)], b := b40 }
def r41 : FnR := { nm := ("joined_names" : Str), at_ := .glo ("joined_names" : Str), name := ("joined_names" : Str), qual := ("joined_names" : Str), st := (top 47), N := [("one" : Str), ("other" : Str), ("found" : Str), ("name" : Str)], ps := [("one" : Str), ("other" : Str)], b := b41 }
def r42 : FnR := { nm := ("inserted" : Str), at_ := .glo ("inserted" : Str), name := ("inserted" : Str), qual := ("inserted" : Str), st := (top 48), N := [("found" : Str), ("names" : Str), ("at" : Str), ("one" : Str)], ps := [("found" : Str), ("names" : Str)], b := b42 }
def r43 : FnR := { nm := ("all_sets" : Str), at_ := .glo ("all_sets" : Str), name := ("all_sets" : Str), qual := ("all_sets" : Str), st := (top 49), N := [("sets" : Str), ("found" : Str), ("names" : Str)], ps := [("sets" : Str)], b := b43 }
def r44 : FnR := { nm := ("all_joins" : Str), at_ := .glo ("all_joins" : Str), name := ("all_joins" : Str), qual := ("all_joins" : Str), st := (top 50), N := [("one" : Str), ("other" : Str), ("sets" : Str), ("names" : Str), ("more" : Str)], ps := [("one" : Str), ("other" : Str)], b := b44 }
def r45 : FnR := { nm := ("greater_of" : Str), at_ := .glo ("greater_of" : Str), name := ("greater_of" : Str), qual := ("greater_of" : Str), st := (top 51), N := [("one" : Str), ("other" : Str)], ps := [("one" : Str), ("other" : Str)], b := b45 }
def r46 : FnR := { nm := ("lesser_of" : Str), at_ := .glo ("lesser_of" : Str), name := ("lesser_of" : Str), qual := ("lesser_of" : Str), st := (top 52), N := [("one" : Str), ("other" : Str)], ps := [("one" : Str), ("other" : Str)], b := b46 }
def r47 : FnR := { nm := ("sum_in" : Str), at_ := .glo ("sum_in" : Str), name := ("sum_in" : Str), qual := ("sum_in" : Str), st := (top 53), N := [("name" : Str), ("one" : Str), ("other" : Str)], ps := [("name" : Str), ("one" : Str), ("other" : Str)], b := b47 }
def r48 : FnR := { nm := ("product_in" : Str), at_ := .glo ("product_in" : Str), name := ("product_in" : Str), qual := ("product_in" : Str), st := (top 54), N := [("name" : Str), ("one" : Str), ("other" : Str)], ps := [("name" : Str), ("one" : Str), ("other" : Str)], b := b48 }
def r49 : FnR := { nm := ("zero_of" : Str), at_ := .glo ("zero_of" : Str), name := ("zero_of" : Str), qual := ("zero_of" : Str), st := (top 55), N := [("name" : Str), ("zeros" : Str)], ps := [("name" : Str)], b := b49 }
def r50 : FnR := { nm := ("one_of" : Str), at_ := .glo ("one_of" : Str), name := ("one_of" : Str), qual := ("one_of" : Str), st := (top 56), N := [("name" : Str), ("ones" : Str)], ps := [("name" : Str)], b := b50 }
def r51 : FnR := { nm := Str.empty, at_ := .glo ("_wall" : Str), name := ("_wall" : Str), qual := ("_wall" : Str), st := (top 0), N := [("k" : Str)], ps := [("k" : Str)], b := b0 }
def r52 : FnR := { nm := Str.empty, at_ := .prop ("Manner" : Str) ("name" : Str), name := ("name" : Str), qual := ("Manner.name" : Str), st := (inClass (top 57) 2), N := [("self" : Str)], ps := [("self" : Str)], b := b52 }
def r53 : FnR := { nm := Str.empty, at_ := .prop ("Manner" : Str) ("zero" : Str), name := ("zero" : Str), qual := ("Manner.zero" : Str), st := (inClass (top 57) 3), N := [("self" : Str)], ps := [("self" : Str)], b := b53 }
def r54 : FnR := { nm := Str.empty, at_ := .prop ("Manner" : Str) ("one" : Str), name := ("one" : Str), qual := ("Manner.one" : Str), st := (inClass (top 57) 4), N := [("self" : Str)], ps := [("self" : Str)], b := b54 }
def r55 : FnR := { nm := Str.empty, at_ := .glo ("_wall" : Str), name := ("_wall" : Str), qual := ("_wall" : Str), st := (top 0), N := [("k" : Str)], ps := [("k" : Str)], b := b0 }
def r56 : FnR := { nm := Str.empty, at_ := .meth ("Manner" : Str) ("is_worth" : Str), name := ("is_worth" : Str), qual := ("Manner.is_worth" : Str), st := (inClass (top 57) 6), N := [("self" : Str), ("value" : Str)], ps := [("self" : Str), ("value" : Str)], b := b56 }
def r57 : FnR := { nm := Str.empty, at_ := .meth ("Manner" : Str) ("check_worth" : Str), name := ("check_worth" : Str), qual := ("Manner.check_worth" : Str), st := (inClass (top 57) 7), N := [("self" : Str), ("value" : Str)], ps := [("self" : Str), ("value" : Str)], b := b57 }
def r58 : FnR := { nm := Str.empty, at_ := .meth ("Manner" : Str) ("plus" : Str), name := ("plus" : Str), qual := ("Manner.plus" : Str), st := (inClass (top 57) 8), N := [("self" : Str), ("a" : Str), ("b" : Str)], ps := [("self" : Str), ("a" : Str), ("b" : Str)], b := b58 }
def r59 : FnR := { nm := Str.empty, at_ := .meth ("Manner" : Str) ("times" : Str), name := ("times" : Str), qual := ("Manner.times" : Str), st := (inClass (top 57) 9), N := [("self" : Str), ("a" : Str), ("b" : Str)], ps := [("self" : Str), ("a" : Str), ("b" : Str)], b := b59 }
def r60 : FnR := { nm := Str.empty, at_ := .meth ("Manner" : Str) ("at_most" : Str), name := ("at_most" : Str), qual := ("Manner.at_most" : Str), st := (inClass (top 57) 10), N := [("self" : Str), ("a" : Str), ("b" : Str)], ps := [("self" : Str), ("a" : Str), ("b" : Str)], b := b60 }
def r61 : FnR := { nm := Str.empty, at_ := .meth ("Manner" : Str) ("__eq__" : Str), name := ("__eq__" : Str), qual := ("Manner.__eq__" : Str), st := (inClass (top 57) 11), N := [("self" : Str), ("other" : Str)], ps := [("self" : Str), ("other" : Str)], b := b61 }
def r62 : FnR := { nm := Str.empty, at_ := .glo ("_wall" : Str), name := ("_wall" : Str), qual := ("_wall" : Str), st := (top 0), N := [("k" : Str)], ps := [("k" : Str)], b := b0 }
def r63 : FnR := { nm := Str.empty, at_ := .prop ("TableManner" : Str) ("table" : Str), name := ("table" : Str), qual := ("TableManner.table" : Str), st := (inClass (top 58) 1), N := [("self" : Str), ("tables" : Str), ("row" : Str), ("table" : Str)], ps := [("self" : Str)], b := b63 }
def r64 : FnR := { nm := Str.empty, at_ := .prop ("TableManner" : Str) ("zero" : Str), name := ("zero" : Str), qual := ("TableManner.zero" : Str), st := (inClass (top 58) 2), N := [("self" : Str)], ps := [("self" : Str)], b := b64 }
def r65 : FnR := { nm := Str.empty, at_ := .prop ("TableManner" : Str) ("one" : Str), name := ("one" : Str), qual := ("TableManner.one" : Str), st := (inClass (top 58) 3), N := [("self" : Str)], ps := [("self" : Str)], b := b65 }
def r66 : FnR := { nm := Str.empty, at_ := .prop ("TableManner" : Str) ("axioms" : Str), name := ("axioms" : Str), qual := ("TableManner.axioms" : Str), st := (inClass (top 58) 4), N := [("self" : Str), ("kept" : Str), ("axiom" : Str)], ps := [("self" : Str)], b := b66 }
def r67 : FnR := { nm := Str.empty, at_ := .meth ("TableManner" : Str) ("is_worth" : Str), name := ("is_worth" : Str), qual := ("TableManner.is_worth" : Str), st := (inClass (top 58) 5), N := [("self" : Str), ("value" : Str)], ps := [("self" : Str), ("value" : Str)], b := b67 }
def r68 : FnR := { nm := Str.empty, at_ := .meth ("TableManner" : Str) ("check_worth" : Str), name := ("check_worth" : Str), qual := ("TableManner.check_worth" : Str), st := (inClass (top 58) 6), N := [("self" : Str), ("value" : Str)], ps := [("self" : Str), ("value" : Str)], b := b68 }
def r69 : FnR := { nm := Str.empty, at_ := .meth ("TableManner" : Str) ("plus" : Str), name := ("plus" : Str), qual := ("TableManner.plus" : Str), st := (inClass (top 58) 7), N := [("self" : Str), ("a" : Str), ("b" : Str)], ps := [("self" : Str), ("a" : Str), ("b" : Str)], b := b69 }
def r70 : FnR := { nm := Str.empty, at_ := .meth ("TableManner" : Str) ("times" : Str), name := ("times" : Str), qual := ("TableManner.times" : Str), st := (inClass (top 58) 8), N := [("self" : Str), ("a" : Str), ("b" : Str)], ps := [("self" : Str), ("a" : Str), ("b" : Str)], b := b70 }
def r71 : FnR := { nm := Str.empty, at_ := .meth ("TableManner" : Str) ("at_most" : Str), name := ("at_most" : Str), qual := ("TableManner.at_most" : Str), st := (inClass (top 58) 9), N := [("self" : Str), ("a" : Str), ("b" : Str)], ps := [("self" : Str), ("a" : Str), ("b" : Str)], b := b71 }
def r72 : FnR := { nm := Str.empty, at_ := .meth ("TableManner" : Str) ("__eq__" : Str), name := ("__eq__" : Str), qual := ("TableManner.__eq__" : Str), st := (inClass (top 58) 10), N := [("self" : Str), ("other" : Str)], ps := [("self" : Str), ("other" : Str)], b := b72 }
def r73 : FnR := { nm := ("all_axioms" : Str), at_ := .glo ("all_axioms" : Str), name := ("all_axioms" : Str), qual := ("all_axioms" : Str), st := (top 59), N := [("axioms" : Str), ("falls" : Str), ("same" : Str), ("kept" : Str), ("axiom" : Str)], ps := [("axioms" : Str)], b := b73 }
def r74 : FnR := { nm := ("are_axioms" : Str), at_ := .glo ("are_axioms" : Str), name := ("are_axioms" : Str), qual := ("are_axioms" : Str), st := (top 60), N := [("value" : Str), ("one" : Str), ("found" : Str)], ps := [("value" : Str)], b := b74 }
def r75 : FnR := { nm := Str.empty, at_ := .glo ("_wall" : Str), name := ("_wall" : Str), qual := ("_wall" : Str), st := (top 0), N := [("k" : Str)], ps := [("k" : Str)], b := b0 }
def r76 : FnR := { nm := Str.empty, at_ := .prop ("Sort" : Str) ("axioms" : Str), name := ("axioms" : Str), qual := ("Sort.axioms" : Str), st := (inClass (top 61) 1), N := [("self" : Str)], ps := [("self" : Str)], b := b76 }
def r77 : FnR := { nm := Str.empty, at_ := .meth ("Sort" : Str) ("__contains__" : Str), name := ("__contains__" : Str), qual := ("Sort.__contains__" : Str), st := (inClass (top 61) 2), N := [("self" : Str), ("manner" : Str), ("kept" : Str), ("axiom" : Str)], ps := [("self" : Str), ("manner" : Str)], b := b77 }
def r78 : FnR := { nm := Str.empty, at_ := .meth ("Sort" : Str) ("__eq__" : Str), name := ("__eq__" : Str), qual := ("Sort.__eq__" : Str), st := (inClass (top 61) 3), N := [("self" : Str), ("other" : Str)], ps := [("self" : Str), ("other" : Str)], b := b78 }
def r79 : FnR := { nm := ("is_manner" : Str), at_ := .glo ("is_manner" : Str), name := ("is_manner" : Str), qual := ("is_manner" : Str), st := (top 62), N := [("value" : Str)], ps := [("value" : Str)], b := b79 }
def r80 : FnR := { nm := ("_law_purse" : Str), at_ := .glo ("_law_purse" : Str), name := ("_law_purse" : Str), qual := ("_law_purse" : Str), st := (top 64), N := [("_law_script" : Str), ("_law_at" : Str), ("_law_cell" : Str)], ps := [("_law_script" : Str), ("_law_at" : Str)], b := b80 }
def r81 : FnR := { nm := ("_law_draw" : Str), at_ := .glo ("_law_draw" : Str), name := ("_law_draw" : Str), qual := ("_law_draw" : Str), st := (top 65), N := [("_law_purse_here" : Str), ("_law_many" : Str), ("_law_drawn" : Str), ("_law_turn" : Str), ("_law_number" : Str)], ps := [("_law_purse_here" : Str), ("_law_many" : Str)], b := b81 }
def r82 : FnR := { nm := ("_law_pick" : Str), at_ := .glo ("_law_pick" : Str), name := ("_law_pick" : Str), qual := ("_law_pick" : Str), st := (top 66), N := [("_law_purse_here" : Str), ("_law_items" : Str)], ps := [("_law_purse_here" : Str), ("_law_items" : Str)], b := b82 }
def r83 : FnR := { nm := ("_law_sorts" : Str), at_ := .glo ("_law_sorts" : Str), name := ("_law_sorts" : Str), qual := ("_law_sorts" : Str), st := (top 67), N := [("_law_some" : Str)], ps := [], b := b83 }
def r84 : FnR := { nm := ("_law_orders" : Str), at_ := .glo ("_law_orders" : Str), name := ("_law_orders" : Str), qual := ("_law_orders" : Str), st := (top 68), N := [("_law_found" : Str), ("_law_at" : Str), ("_law_axiom" : Str)], ps := [], b := b84 }
def r85 : FnR := { nm := ("_law_due" : Str), at_ := .glo ("_law_due" : Str), name := ("_law_due" : Str), qual := ("_law_due" : Str), st := (top 69), N := [("_law_axioms" : Str), ("_law_due_here" : Str), ("_law_one" : Str)], ps := [("_law_axioms" : Str)], b := b85 }
def r86 : FnR := { nm := ("_law_refused" : Str), at_ := .glo ("_law_refused" : Str), name := ("_law_refused" : Str), qual := ("_law_refused" : Str), st := (top 70), N := [("_law_axioms" : Str), ("_law_due_here" : Str), ("_law_caught" : Str), ("error" : Str)], ps := [("_law_axioms" : Str)], b := b86 }
def r87 : FnR := { nm := ("law" : Str), at_ := .glo ("law" : Str), name := ("law" : Str), qual := ("law" : Str), st := (top 71), N := [("_law_script" : Str), ("_law_purse_here" : Str), ("_law_many" : Str), ("_law_axioms" : Str), ("_law_due_here" : Str), ("_law_given" : Str), ("_law_made" : Str), ("_law_one" : Str), ("_law_odd" : Str)], ps := [("_law_script" : Str)], b := b87 }
def c0 : ClR := { nm := ("AnyMannerError" : Str), fln := [], fld := [], prp := [], mth := [], sub := [0, 1000], ini := none, exn := none }
def c1 : ClR := { nm := ("InvalidManner" : Str), fln := [("value" : Str)], fld := [(8, 0)], prp := [], mth := [], sub := [1, 0, 1000], ini := none, exn := some { st := (inClass (top 3) 0), qual := ("InvalidManner.__init__" : Str) } }
def c2 : ClR := { nm := ("InvalidWorth" : Str), fln := [("value" : Str)], fld := [(8, 0)], prp := [], mth := [], sub := [2, 0, 1000], ini := none, exn := some { st := (inClass (top 4) 0), qual := ("InvalidWorth.__init__" : Str) } }
def c3 : ClR := { nm := ("InvalidAxioms" : Str), fln := [("value" : Str)], fld := [(8, 0)], prp := [], mth := [], sub := [3, 0, 1000], ini := none, exn := some { st := (inClass (top 5) 0), qual := ("InvalidAxioms.__init__" : Str) } }
def c4 : ClR := { nm := ("InvalidRecord" : Str), fln := [("value" : Str)], fld := [(8, 0)], prp := [], mth := [], sub := [4, 0, 1000], ini := none, exn := some { st := (inClass (top 6) 0), qual := ("InvalidRecord.__init__" : Str) } }
def c5 : ClR := { nm := ("InvalidName" : Str), fln := [("value" : Str)], fld := [(8, 0)], prp := [], mth := [], sub := [5, 0, 1000], ini := none, exn := some { st := (inClass (top 7) 0), qual := ("InvalidName.__init__" : Str) } }
def c6 : ClR := { nm := ("Record" : Str), fln := [("sums" : Str)], fld := [(0, 0)], prp := [(1, 18)], mth := [(2, 20), (3, 21), (4, 22), (1, 23)], sub := [6], ini := some { nm := Str.empty, at_ := .meth ("Record" : Str) ("__init__" : Str), name := ("__init__" : Str), qual := ("Record.__init__" : Str), st := (inClass (top 24) 0), N := [("self" : Str), ("terms" : Str)], ps := [("self" : Str), ("terms" : Str)], b := b17 }, exn := none }
def c7 : ClR := { nm := ("Manner" : Str), fln := [("called" : Str)], fld := [(2, 0)], prp := [], mth := [(8, 56), (7, 57), (1, 61)], sub := [7], ini := some { nm := Str.empty, at_ := .meth ("Manner" : Str) ("__init__" : Str), name := ("__init__" : Str), qual := ("Manner.__init__" : Str), st := (inClass (top 57) 1), N := [("self" : Str), ("name" : Str)], ps := [("self" : Str), ("name" : Str)], b := b51 }, exn := none }
def c8 : ClR := { nm := ("TableManner" : Str), fln := [("sums" : Str), ("products" : Str), ("order" : Str), ("called" : Str)], fld := [(0, 0), (3, 1), (4, 2), (2, 3)], prp := [(5, 63), (7, 66)], mth := [(8, 67), (7, 68), (1, 72)], sub := [8], ini := some { nm := Str.empty, at_ := .meth ("TableManner" : Str) ("__init__" : Str), name := ("__init__" : Str), qual := ("TableManner.__init__" : Str), st := (inClass (top 58) 0), N := [("self" : Str), ("plus" : Str), ("times" : Str), ("order" : Str), ("row" : Str)], ps := [("self" : Str), ("plus" : Str), ("times" : Str), ("order" : Str)], b := b62 }, exn := none }
def c9 : ClR := { nm := ("Sort" : Str), fln := [("kept" : Str)], fld := [(6, 0)], prp := [(7, 76)], mth := [(5, 77), (1, 78)], sub := [9], ini := some { nm := Str.empty, at_ := .meth ("Sort" : Str) ("__init__" : Str), name := ("__init__" : Str), qual := ("Sort.__init__" : Str), st := (inClass (top 61) 0), N := [("self" : Str), ("axioms" : Str)], ps := [("self" : Str), ("axioms" : Str)], b := b75 }, exn := none }
def pd : PgD := { fns := [r0, r1, r2, r3, r4, r5, r6, r7, r8, r9, r10, r11, r12, r13, r14, r15, r16, r17, r18, r19, r20, r21, r22, r23, r24, r25, r26, r27, r28, r29, r30, r31, r32, r33, r34, r35, r36, r37, r38, r39, r40, r41, r42, r43, r44, r45, r46, r47, r48, r49, r50, r51, r52, r53, r54, r55, r56, r57, r58, r59, r60, r61, r62, r63, r64, r65, r66, r67, r68, r69, r70, r71, r72, r73, r74, r75, r76, r77, r78, r79, r80, r81, r82, r83, r84, r85, r86, r87], cls := [c0, c1, c2, c3, c4, c5, c6, c7, c8, c9], anm := [("sums" : Str), ("terms" : Str), ("called" : Str), ("products" : Str), ("order" : Str), ("table" : Str), ("kept" : Str), ("axioms" : Str), ("value" : Str)], mnm := [("__init__" : Str), ("__eq__" : Str), ("__add__" : Str), ("__mul__" : Str), ("__le__" : Str), ("__contains__" : Str), ("__len__" : Str), ("check_worth" : Str), ("is_worth" : Str)], glob := [(("LETTERS" : Str), (.str ("abcdefghijklmnopqrstuvwxyz" : Str))), (("LONGEST_NAME" : Str), (.int 8)), (("MOST_WORTHS" : Str), (.int 16)), (("GREATEST_GRADE" : Str), (.int 100)), (("ALL_AXIOMS" : Str), (.tup [(.str ("falls" : Str)), (.str ("grows" : Str)), (.str ("once" : Str)), (.str ("same" : Str))])), (Str.empty, .non)], dcts := [(("AXIOMS" : Str), [(("yes" : Str), (.tup [(.str ("falls" : Str)), (.str ("grows" : Str)), (.str ("once" : Str)), (.str ("same" : Str))])), (("weakest" : Str), (.tup [(.str ("falls" : Str)), (.str ("grows" : Str)), (.str ("once" : Str)), (.str ("same" : Str))])), (("rows" : Str), (.tup [(.str ("grows" : Str)), (.str ("once" : Str)), (.str ("same" : Str))])), (("reasons" : Str), (.tup [(.str ("grows" : Str)), (.str ("once" : Str))])), (("record" : Str), (.tup [])), (("cheapest" : Str), (.tup [(.str ("falls" : Str)), (.str ("once" : Str))])), (("surest" : Str), (.tup [(.str ("falls" : Str)), (.str ("once" : Str))])), (("dearest" : Str), (.tup [(.str ("grows" : Str)), (.str ("once" : Str))])), (("count" : Str), (.tup [(.str ("grows" : Str))]))])], file := PySem.Challenge.pw_anymanner_k11_sorts_made.main.file }
abbrev lawI : Nat := 87
abbrev lawP : Nat := 71
def names0 : List Str := [("_wall" : Str), ("AnyMannerError" : Str), ("InvalidManner" : Str), ("InvalidWorth" : Str), ("InvalidAxioms" : Str), ("InvalidRecord" : Str), ("InvalidName" : Str), ("LETTERS" : Str), ("LONGEST_NAME" : Str), ("is_whole" : Str), ("is_name" : Str), ("check_name" : Str), ("common_divisor" : Str), ("is_fraction" : Str), ("times_fractions" : Str), ("is_less_fraction" : Str), ("is_product" : Str), ("is_products" : Str), ("key_of" : Str), ("collected" : Str), ("Record" : Str), ("check_record" : Str), ("MOST_WORTHS" : Str), ("is_square" : Str), ("are_worths_in" : Str), ("are_booleans" : Str), ("are_tables" : Str), ("is_passed_on" : Str), ("is_order" : Str), ("is_even" : Str)]
def names1 : List Str := [("is_spread" : Str), ("is_kept" : Str), ("are_manner" : Str), ("kept_axioms" : Str), ("GREATEST_GRADE" : Str), ("ALL_AXIOMS" : Str), ("AXIOMS" : Str), ("is_number" : Str), ("is_name_set" : Str), ("are_name_sets" : Str), ("is_worth_in" : Str), ("joined_names" : Str), ("inserted" : Str), ("all_sets" : Str), ("all_joins" : Str), ("greater_of" : Str), ("lesser_of" : Str), ("sum_in" : Str), ("product_in" : Str), ("zero_of" : Str), ("one_of" : Str), ("Manner" : Str), ("TableManner" : Str), ("all_axioms" : Str), ("are_axioms" : Str), ("Sort" : Str), ("is_manner" : Str), ("_law_purse" : Str), ("_law_draw" : Str), ("_law_pick" : Str)]
def names2 : List Str := [("_law_sorts" : Str), ("_law_orders" : Str), ("_law_due" : Str), ("_law_refused" : Str)]
def names : List Str := names0 ++ names1 ++ names2
end MiP

set_option Elab.async false
set_option linter.all false
set_option maxRecDepth 100000
set_option maxHeartbeats 0
namespace MiP
open PySem L2 Mi
abbrev T1 : Pg := pd.pg
def envA (ns : List Int) : En := [.val (.scr ns), .val (.cell 0), .val (.lst []), .no, .no, .no, .no, .no, .no]
/-- a walk whose turns all go on -/
def stepsL (f : W → En → Mem → SR) : List W → En → Mem → Option (En × Mem)
  | [], e, m => some (e, m)
  | x :: xs, e, m => match f x e m with | .next e' m' => stepsL f xs e' m' | .cont e' m' => stepsL f xs e' m' | _ => none
theorem steps_for {f : W → En → Mem → SR} {ys : List W} : ∀ {xs : List W} {e e' : En} {m m' : Mem}, stepsL f xs e m = some (e', m') → forL f none (xs ++ ys) e m = forL f none ys e' m'
  | [], e, e', m, m', h => by cases h; rfl
  | x :: xs, e, e', m, m', h => by
    simp only [stepsL] at h
    simp only [List.cons_append, forL, okSrc, if_true]
    cases q : f x e m with
    | next e1 m1 => rw [q] at h; exact steps_for h
    | cont e1 m1 => rw [q] at h; exact steps_for h
    | brk e1 m1 => rw [q] at h; cases h
    | ret r m1 => rw [q] at h; cases h
    | exc x e1 m1 => rw [q] at h; cases h
    | stuck => rw [q] at h; cases h
def fB : W → En → Mem → SR := fun x env m => match bindT (.n 3) x env with | some env' => evSs T1 (cfN T1 19) b87_2 env' m | none => .stuck
def ex0 : En := [.val (.cell 0), .val (.lst []), .no, .no, .no, .no, .no, .no]
def mx0 : Mem := []
def oc0 : List W := [.lst [], .lst [.str ("once" : Str)], .lst [.str ("falls" : Str)], .lst [.str ("grows" : Str)]]
def ex1 : En := [.val (.cell 0), .val (.lst [.lst [], .lst [.str ("once" : Str)], .lst [.str ("falls" : Str), .str ("once" : Str)], .lst [.str ("grows" : Str)]]), .val (.lst [.str ("grows" : Str)]), .val (.lst [.str ("grows" : Str)]), .val (.cell 7), .val (.ins 9 [.tup [.str ("grows" : Str)]]), .no, .no]
def mx1 : Mem := [.lst [.str ("falls" : Str)], .lst [.str ("more" : Str)], .lst [.str ("once" : Str), .str ("falls" : Str)], .lst [.str ("once" : Str), .str ("more" : Str)], .lst [.str ("falls" : Str), .str ("falls" : Str)], .lst [.str ("falls" : Str), .str ("once" : Str), .str ("more" : Str)], .lst [.str ("grows" : Str), .str ("falls" : Str)], .lst [.str ("grows" : Str), .str ("more" : Str)]]
theorem ck0 (ns : List Int) (a b c : Int) : stepsL fB oc0 (.val (.scr ns) :: ex0) (.lst [.int a, .int b, .int c] :: mx0) = some (.val (.scr ns) :: ex1, .lst [.int a, .int b, .int c] :: mx1) := by kernel_rfl
def oc1 : List W := [.lst [.str ("same" : Str)], .lst [.str ("once" : Str), .str ("falls" : Str)], .lst [.str ("once" : Str), .str ("grows" : Str)], .lst [.str ("once" : Str), .str ("same" : Str)]]
def ex2 : En := [.val (.cell 0), .val (.lst [.lst [], .lst [.str ("once" : Str)], .lst [.str ("falls" : Str), .str ("once" : Str)], .lst [.str ("grows" : Str)], .lst [.str ("grows" : Str), .str ("once" : Str)], .lst [.str ("grows" : Str), .str ("once" : Str), .str ("same" : Str)]]), .val (.lst [.str ("once" : Str), .str ("same" : Str)]), .val (.lst [.str ("grows" : Str), .str ("once" : Str), .str ("same" : Str)]), .val (.cell 14), .val (.ins 9 [.tup [.str ("grows" : Str), .str ("once" : Str), .str ("same" : Str)]]), .no, .no]
def mx2 : Mem := [.lst [.str ("falls" : Str)], .lst [.str ("more" : Str)], .lst [.str ("once" : Str), .str ("falls" : Str)], .lst [.str ("once" : Str), .str ("more" : Str)], .lst [.str ("falls" : Str), .str ("falls" : Str)], .lst [.str ("falls" : Str), .str ("once" : Str), .str ("more" : Str)], .lst [.str ("grows" : Str), .str ("falls" : Str)], .lst [.str ("grows" : Str), .str ("more" : Str)], .lst [.str ("same" : Str)], .lst [.str ("once" : Str), .str ("falls" : Str), .str ("falls" : Str)], .lst [.str ("falls" : Str), .str ("once" : Str), .str ("more" : Str)], .lst [.str ("once" : Str), .str ("grows" : Str), .str ("falls" : Str)], .lst [.str ("grows" : Str), .str ("once" : Str), .str ("more" : Str)], .lst [.str ("once" : Str), .str ("same" : Str), .str ("falls" : Str)], .lst [.str ("grows" : Str), .str ("once" : Str), .str ("same" : Str), .str ("more" : Str)]]
theorem ck1 (ns : List Int) (a b c : Int) : stepsL fB oc1 (.val (.scr ns) :: ex1) (.lst [.int a, .int b, .int c] :: mx1) = some (.val (.scr ns) :: ex2, .lst [.int a, .int b, .int c] :: mx2) := by kernel_rfl
def oc2 : List W := [.lst [.str ("falls" : Str), .str ("once" : Str)], .lst [.str ("falls" : Str), .str ("grows" : Str)], .lst [.str ("falls" : Str), .str ("same" : Str)], .lst [.str ("grows" : Str), .str ("once" : Str)]]
def ex3 : En := [.val (.cell 0), .val (.lst [.lst [], .lst [.str ("once" : Str)], .lst [.str ("falls" : Str), .str ("once" : Str)], .lst [.str ("grows" : Str)], .lst [.str ("grows" : Str), .str ("once" : Str)], .lst [.str ("grows" : Str), .str ("once" : Str), .str ("same" : Str)], .lst [.str ("falls" : Str), .str ("grows" : Str), .str ("once" : Str), .str ("same" : Str)]]), .val (.lst [.str ("grows" : Str), .str ("once" : Str)]), .val (.lst [.str ("grows" : Str), .str ("once" : Str)]), .val (.cell 22), .val (.ins 9 [.tup [.str ("grows" : Str), .str ("once" : Str)]]), .no, .no]
def mx3 : Mem := [.lst [.str ("falls" : Str)], .lst [.str ("more" : Str)], .lst [.str ("once" : Str), .str ("falls" : Str)], .lst [.str ("once" : Str), .str ("more" : Str)], .lst [.str ("falls" : Str), .str ("falls" : Str)], .lst [.str ("falls" : Str), .str ("once" : Str), .str ("more" : Str)], .lst [.str ("grows" : Str), .str ("falls" : Str)], .lst [.str ("grows" : Str), .str ("more" : Str)], .lst [.str ("same" : Str)], .lst [.str ("once" : Str), .str ("falls" : Str), .str ("falls" : Str)], .lst [.str ("falls" : Str), .str ("once" : Str), .str ("more" : Str)], .lst [.str ("once" : Str), .str ("grows" : Str), .str ("falls" : Str)], .lst [.str ("grows" : Str), .str ("once" : Str), .str ("more" : Str)], .lst [.str ("once" : Str), .str ("same" : Str), .str ("falls" : Str)], .lst [.str ("grows" : Str), .str ("once" : Str), .str ("same" : Str), .str ("more" : Str)], .lst [.str ("falls" : Str), .str ("once" : Str), .str ("falls" : Str)], .lst [.str ("falls" : Str), .str ("once" : Str), .str ("more" : Str)], .lst [.str ("falls" : Str), .str ("grows" : Str), .str ("falls" : Str)], .lst [.str ("falls" : Str), .str ("grows" : Str), .str ("once" : Str), .str ("same" : Str), .str ("more" : Str)], .lst [.str ("falls" : Str), .str ("same" : Str), .str ("falls" : Str)], .lst [.str ("falls" : Str), .str ("grows" : Str), .str ("once" : Str), .str ("same" : Str), .str ("more" : Str)], .lst [.str ("grows" : Str), .str ("once" : Str), .str ("falls" : Str)], .lst [.str ("grows" : Str), .str ("once" : Str), .str ("more" : Str)]]
theorem ck2 (ns : List Int) (a b c : Int) : stepsL fB oc2 (.val (.scr ns) :: ex2) (.lst [.int a, .int b, .int c] :: mx2) = some (.val (.scr ns) :: ex3, .lst [.int a, .int b, .int c] :: mx3) := by kernel_rfl
def oc3 : List W := [.lst [.str ("grows" : Str), .str ("falls" : Str)], .lst [.str ("grows" : Str), .str ("same" : Str)], .lst [.str ("same" : Str), .str ("once" : Str)], .lst [.str ("same" : Str), .str ("falls" : Str)]]
def ex4 : En := [.val (.cell 0), .val (.lst [.lst [], .lst [.str ("once" : Str)], .lst [.str ("falls" : Str), .str ("once" : Str)], .lst [.str ("grows" : Str)], .lst [.str ("grows" : Str), .str ("once" : Str)], .lst [.str ("grows" : Str), .str ("once" : Str), .str ("same" : Str)], .lst [.str ("falls" : Str), .str ("grows" : Str), .str ("once" : Str), .str ("same" : Str)]]), .val (.lst [.str ("same" : Str), .str ("falls" : Str)]), .val (.lst [.str ("falls" : Str), .str ("grows" : Str), .str ("once" : Str), .str ("same" : Str)]), .val (.cell 29), .val (.ins 9 [.tup [.str ("falls" : Str), .str ("grows" : Str), .str ("once" : Str), .str ("same" : Str)]]), .no, .no]
def mx4 : Mem := [.lst [.str ("falls" : Str)], .lst [.str ("more" : Str)], .lst [.str ("once" : Str), .str ("falls" : Str)], .lst [.str ("once" : Str), .str ("more" : Str)], .lst [.str ("falls" : Str), .str ("falls" : Str)], .lst [.str ("falls" : Str), .str ("once" : Str), .str ("more" : Str)], .lst [.str ("grows" : Str), .str ("falls" : Str)], .lst [.str ("grows" : Str), .str ("more" : Str)], .lst [.str ("same" : Str)], .lst [.str ("once" : Str), .str ("falls" : Str), .str ("falls" : Str)], .lst [.str ("falls" : Str), .str ("once" : Str), .str ("more" : Str)], .lst [.str ("once" : Str), .str ("grows" : Str), .str ("falls" : Str)], .lst [.str ("grows" : Str), .str ("once" : Str), .str ("more" : Str)], .lst [.str ("once" : Str), .str ("same" : Str), .str ("falls" : Str)], .lst [.str ("grows" : Str), .str ("once" : Str), .str ("same" : Str), .str ("more" : Str)], .lst [.str ("falls" : Str), .str ("once" : Str), .str ("falls" : Str)], .lst [.str ("falls" : Str), .str ("once" : Str), .str ("more" : Str)], .lst [.str ("falls" : Str), .str ("grows" : Str), .str ("falls" : Str)], .lst [.str ("falls" : Str), .str ("grows" : Str), .str ("once" : Str), .str ("same" : Str), .str ("more" : Str)], .lst [.str ("falls" : Str), .str ("same" : Str), .str ("falls" : Str)], .lst [.str ("falls" : Str), .str ("grows" : Str), .str ("once" : Str), .str ("same" : Str), .str ("more" : Str)], .lst [.str ("grows" : Str), .str ("once" : Str), .str ("falls" : Str)], .lst [.str ("grows" : Str), .str ("once" : Str), .str ("more" : Str)], .lst [.str ("grows" : Str), .str ("falls" : Str), .str ("falls" : Str)], .lst [.str ("falls" : Str), .str ("grows" : Str), .str ("once" : Str), .str ("same" : Str), .str ("more" : Str)], .lst [.str ("grows" : Str), .str ("same" : Str)], .lst [.str ("same" : Str), .str ("once" : Str), .str ("falls" : Str)], .lst [.str ("grows" : Str), .str ("once" : Str), .str ("same" : Str), .str ("more" : Str)], .lst [.str ("same" : Str), .str ("falls" : Str), .str ("falls" : Str)], .lst [.str ("falls" : Str), .str ("grows" : Str), .str ("once" : Str), .str ("same" : Str), .str ("more" : Str)]]
theorem ck3 (ns : List Int) (a b c : Int) : stepsL fB oc3 (.val (.scr ns) :: ex3) (.lst [.int a, .int b, .int c] :: mx3) = some (.val (.scr ns) :: ex4, .lst [.int a, .int b, .int c] :: mx4) := by kernel_rfl
def oc4 : List W := [.lst [.str ("same" : Str), .str ("grows" : Str)], .lst [.str ("once" : Str), .str ("falls" : Str), .str ("grows" : Str)], .lst [.str ("once" : Str), .str ("falls" : Str), .str ("same" : Str)], .lst [.str ("once" : Str), .str ("grows" : Str), .str ("falls" : Str)]]
def ex5 : En := [.val (.cell 0), .val (.lst [.lst [], .lst [.str ("once" : Str)], .lst [.str ("falls" : Str), .str ("once" : Str)], .lst [.str ("grows" : Str)], .lst [.str ("grows" : Str), .str ("once" : Str)], .lst [.str ("grows" : Str), .str ("once" : Str), .str ("same" : Str)], .lst [.str ("falls" : Str), .str ("grows" : Str), .str ("once" : Str), .str ("same" : Str)]]), .val (.lst [.str ("once" : Str), .str ("grows" : Str), .str ("falls" : Str)]), .val (.lst [.str ("falls" : Str), .str ("grows" : Str), .str ("once" : Str), .str ("same" : Str)]), .val (.cell 36), .val (.ins 9 [.tup [.str ("falls" : Str), .str ("grows" : Str), .str ("once" : Str), .str ("same" : Str)]]), .no, .no]
def mx5 : Mem := [.lst [.str ("falls" : Str)], .lst [.str ("more" : Str)], .lst [.str ("once" : Str), .str ("falls" : Str)], .lst [.str ("once" : Str), .str ("more" : Str)], .lst [.str ("falls" : Str), .str ("falls" : Str)], .lst [.str ("falls" : Str), .str ("once" : Str), .str ("more" : Str)], .lst [.str ("grows" : Str), .str ("falls" : Str)], .lst [.str ("grows" : Str), .str ("more" : Str)], .lst [.str ("same" : Str)], .lst [.str ("once" : Str), .str ("falls" : Str), .str ("falls" : Str)], .lst [.str ("falls" : Str), .str ("once" : Str), .str ("more" : Str)], .lst [.str ("once" : Str), .str ("grows" : Str), .str ("falls" : Str)], .lst [.str ("grows" : Str), .str ("once" : Str), .str ("more" : Str)], .lst [.str ("once" : Str), .str ("same" : Str), .str ("falls" : Str)], .lst [.str ("grows" : Str), .str ("once" : Str), .str ("same" : Str), .str ("more" : Str)], .lst [.str ("falls" : Str), .str ("once" : Str), .str ("falls" : Str)], .lst [.str ("falls" : Str), .str ("once" : Str), .str ("more" : Str)], .lst [.str ("falls" : Str), .str ("grows" : Str), .str ("falls" : Str)], .lst [.str ("falls" : Str), .str ("grows" : Str), .str ("once" : Str), .str ("same" : Str), .str ("more" : Str)], .lst [.str ("falls" : Str), .str ("same" : Str), .str ("falls" : Str)], .lst [.str ("falls" : Str), .str ("grows" : Str), .str ("once" : Str), .str ("same" : Str), .str ("more" : Str)], .lst [.str ("grows" : Str), .str ("once" : Str), .str ("falls" : Str)], .lst [.str ("grows" : Str), .str ("once" : Str), .str ("more" : Str)], .lst [.str ("grows" : Str), .str ("falls" : Str), .str ("falls" : Str)], .lst [.str ("falls" : Str), .str ("grows" : Str), .str ("once" : Str), .str ("same" : Str), .str ("more" : Str)], .lst [.str ("grows" : Str), .str ("same" : Str)], .lst [.str ("same" : Str), .str ("once" : Str), .str ("falls" : Str)], .lst [.str ("grows" : Str), .str ("once" : Str), .str ("same" : Str), .str ("more" : Str)], .lst [.str ("same" : Str), .str ("falls" : Str), .str ("falls" : Str)], .lst [.str ("falls" : Str), .str ("grows" : Str), .str ("once" : Str), .str ("same" : Str), .str ("more" : Str)], .lst [.str ("same" : Str), .str ("grows" : Str)], .lst [.str ("once" : Str), .str ("falls" : Str), .str ("grows" : Str), .str ("falls" : Str)], .lst [.str ("falls" : Str), .str ("grows" : Str), .str ("once" : Str), .str ("same" : Str), .str ("more" : Str)], .lst [.str ("once" : Str), .str ("falls" : Str), .str ("same" : Str), .str ("falls" : Str)], .lst [.str ("falls" : Str), .str ("grows" : Str), .str ("once" : Str), .str ("same" : Str), .str ("more" : Str)], .lst [.str ("once" : Str), .str ("grows" : Str), .str ("falls" : Str), .str ("falls" : Str)], .lst [.str ("falls" : Str), .str ("grows" : Str), .str ("once" : Str), .str ("same" : Str), .str ("more" : Str)]]
theorem ck4 (ns : List Int) (a b c : Int) : stepsL fB oc4 (.val (.scr ns) :: ex4) (.lst [.int a, .int b, .int c] :: mx4) = some (.val (.scr ns) :: ex5, .lst [.int a, .int b, .int c] :: mx5) := by kernel_rfl
def oc5 : List W := [.lst [.str ("once" : Str), .str ("grows" : Str), .str ("same" : Str)], .lst [.str ("once" : Str), .str ("same" : Str), .str ("falls" : Str)], .lst [.str ("once" : Str), .str ("same" : Str), .str ("grows" : Str)], .lst [.str ("falls" : Str), .str ("once" : Str), .str ("grows" : Str)]]
def ex6 : En := [.val (.cell 0), .val (.lst [.lst [], .lst [.str ("once" : Str)], .lst [.str ("falls" : Str), .str ("once" : Str)], .lst [.str ("grows" : Str)], .lst [.str ("grows" : Str), .str ("once" : Str)], .lst [.str ("grows" : Str), .str ("once" : Str), .str ("same" : Str)], .lst [.str ("falls" : Str), .str ("grows" : Str), .str ("once" : Str), .str ("same" : Str)]]), .val (.lst [.str ("falls" : Str), .str ("once" : Str), .str ("grows" : Str)]), .val (.lst [.str ("falls" : Str), .str ("grows" : Str), .str ("once" : Str), .str ("same" : Str)]), .val (.cell 44), .val (.ins 9 [.tup [.str ("falls" : Str), .str ("grows" : Str), .str ("once" : Str), .str ("same" : Str)]]), .no, .no]
def mx6 : Mem := [.lst [.str ("falls" : Str)], .lst [.str ("more" : Str)], .lst [.str ("once" : Str), .str ("falls" : Str)], .lst [.str ("once" : Str), .str ("more" : Str)], .lst [.str ("falls" : Str), .str ("falls" : Str)], .lst [.str ("falls" : Str), .str ("once" : Str), .str ("more" : Str)], .lst [.str ("grows" : Str), .str ("falls" : Str)], .lst [.str ("grows" : Str), .str ("more" : Str)], .lst [.str ("same" : Str)], .lst [.str ("once" : Str), .str ("falls" : Str), .str ("falls" : Str)], .lst [.str ("falls" : Str), .str ("once" : Str), .str ("more" : Str)], .lst [.str ("once" : Str), .str ("grows" : Str), .str ("falls" : Str)], .lst [.str ("grows" : Str), .str ("once" : Str), .str ("more" : Str)], .lst [.str ("once" : Str), .str ("same" : Str), .str ("falls" : Str)], .lst [.str ("grows" : Str), .str ("once" : Str), .str ("same" : Str), .str ("more" : Str)], .lst [.str ("falls" : Str), .str ("once" : Str), .str ("falls" : Str)], .lst [.str ("falls" : Str), .str ("once" : Str), .str ("more" : Str)], .lst [.str ("falls" : Str), .str ("grows" : Str), .str ("falls" : Str)], .lst [.str ("falls" : Str), .str ("grows" : Str), .str ("once" : Str), .str ("same" : Str), .str ("more" : Str)], .lst [.str ("falls" : Str), .str ("same" : Str), .str ("falls" : Str)], .lst [.str ("falls" : Str), .str ("grows" : Str), .str ("once" : Str), .str ("same" : Str), .str ("more" : Str)], .lst [.str ("grows" : Str), .str ("once" : Str), .str ("falls" : Str)], .lst [.str ("grows" : Str), .str ("once" : Str), .str ("more" : Str)], .lst [.str ("grows" : Str), .str ("falls" : Str), .str ("falls" : Str)], .lst [.str ("falls" : Str), .str ("grows" : Str), .str ("once" : Str), .str ("same" : Str), .str ("more" : Str)], .lst [.str ("grows" : Str), .str ("same" : Str)], .lst [.str ("same" : Str), .str ("once" : Str), .str ("falls" : Str)], .lst [.str ("grows" : Str), .str ("once" : Str), .str ("same" : Str), .str ("more" : Str)], .lst [.str ("same" : Str), .str ("falls" : Str), .str ("falls" : Str)], .lst [.str ("falls" : Str), .str ("grows" : Str), .str ("once" : Str), .str ("same" : Str), .str ("more" : Str)], .lst [.str ("same" : Str), .str ("grows" : Str)], .lst [.str ("once" : Str), .str ("falls" : Str), .str ("grows" : Str), .str ("falls" : Str)], .lst [.str ("falls" : Str), .str ("grows" : Str), .str ("once" : Str), .str ("same" : Str), .str ("more" : Str)], .lst [.str ("once" : Str), .str ("falls" : Str), .str ("same" : Str), .str ("falls" : Str)], .lst [.str ("falls" : Str), .str ("grows" : Str), .str ("once" : Str), .str ("same" : Str), .str ("more" : Str)], .lst [.str ("once" : Str), .str ("grows" : Str), .str ("falls" : Str), .str ("falls" : Str)], .lst [.str ("falls" : Str), .str ("grows" : Str), .str ("once" : Str), .str ("same" : Str), .str ("more" : Str)], .lst [.str ("once" : Str), .str ("grows" : Str), .str ("same" : Str), .str ("falls" : Str)], .lst [.str ("grows" : Str), .str ("once" : Str), .str ("same" : Str), .str ("more" : Str)], .lst [.str ("once" : Str), .str ("same" : Str), .str ("falls" : Str), .str ("falls" : Str)], .lst [.str ("falls" : Str), .str ("grows" : Str), .str ("once" : Str), .str ("same" : Str), .str ("more" : Str)], .lst [.str ("once" : Str), .str ("same" : Str), .str ("grows" : Str), .str ("falls" : Str)], .lst [.str ("grows" : Str), .str ("once" : Str), .str ("same" : Str), .str ("more" : Str)], .lst [.str ("falls" : Str), .str ("once" : Str), .str ("grows" : Str), .str ("falls" : Str)], .lst [.str ("falls" : Str), .str ("grows" : Str), .str ("once" : Str), .str ("same" : Str), .str ("more" : Str)]]
theorem ck5 (ns : List Int) (a b c : Int) : stepsL fB oc5 (.val (.scr ns) :: ex5) (.lst [.int a, .int b, .int c] :: mx5) = some (.val (.scr ns) :: ex6, .lst [.int a, .int b, .int c] :: mx6) := by kernel_rfl
def oc6 : List W := [.lst [.str ("falls" : Str), .str ("once" : Str), .str ("same" : Str)], .lst [.str ("falls" : Str), .str ("grows" : Str), .str ("once" : Str)], .lst [.str ("falls" : Str), .str ("grows" : Str), .str ("same" : Str)], .lst [.str ("falls" : Str), .str ("same" : Str), .str ("once" : Str)]]
def ex7 : En := [.val (.cell 0), .val (.lst [.lst [], .lst [.str ("once" : Str)], .lst [.str ("falls" : Str), .str ("once" : Str)], .lst [.str ("grows" : Str)], .lst [.str ("grows" : Str), .str ("once" : Str)], .lst [.str ("grows" : Str), .str ("once" : Str), .str ("same" : Str)], .lst [.str ("falls" : Str), .str ("grows" : Str), .str ("once" : Str), .str ("same" : Str)]]), .val (.lst [.str ("falls" : Str), .str ("same" : Str), .str ("once" : Str)]), .val (.lst [.str ("falls" : Str), .str ("grows" : Str), .str ("once" : Str), .str ("same" : Str)]), .val (.cell 52), .val (.ins 9 [.tup [.str ("falls" : Str), .str ("grows" : Str), .str ("once" : Str), .str ("same" : Str)]]), .no, .no]
def mx7 : Mem := [.lst [.str ("falls" : Str)], .lst [.str ("more" : Str)], .lst [.str ("once" : Str), .str ("falls" : Str)], .lst [.str ("once" : Str), .str ("more" : Str)], .lst [.str ("falls" : Str), .str ("falls" : Str)], .lst [.str ("falls" : Str), .str ("once" : Str), .str ("more" : Str)], .lst [.str ("grows" : Str), .str ("falls" : Str)], .lst [.str ("grows" : Str), .str ("more" : Str)], .lst [.str ("same" : Str)], .lst [.str ("once" : Str), .str ("falls" : Str), .str ("falls" : Str)], .lst [.str ("falls" : Str), .str ("once" : Str), .str ("more" : Str)], .lst [.str ("once" : Str), .str ("grows" : Str), .str ("falls" : Str)], .lst [.str ("grows" : Str), .str ("once" : Str), .str ("more" : Str)], .lst [.str ("once" : Str), .str ("same" : Str), .str ("falls" : Str)], .lst [.str ("grows" : Str), .str ("once" : Str), .str ("same" : Str), .str ("more" : Str)], .lst [.str ("falls" : Str), .str ("once" : Str), .str ("falls" : Str)], .lst [.str ("falls" : Str), .str ("once" : Str), .str ("more" : Str)], .lst [.str ("falls" : Str), .str ("grows" : Str), .str ("falls" : Str)], .lst [.str ("falls" : Str), .str ("grows" : Str), .str ("once" : Str), .str ("same" : Str), .str ("more" : Str)], .lst [.str ("falls" : Str), .str ("same" : Str), .str ("falls" : Str)], .lst [.str ("falls" : Str), .str ("grows" : Str), .str ("once" : Str), .str ("same" : Str), .str ("more" : Str)], .lst [.str ("grows" : Str), .str ("once" : Str), .str ("falls" : Str)], .lst [.str ("grows" : Str), .str ("once" : Str), .str ("more" : Str)], .lst [.str ("grows" : Str), .str ("falls" : Str), .str ("falls" : Str)], .lst [.str ("falls" : Str), .str ("grows" : Str), .str ("once" : Str), .str ("same" : Str), .str ("more" : Str)], .lst [.str ("grows" : Str), .str ("same" : Str)], .lst [.str ("same" : Str), .str ("once" : Str), .str ("falls" : Str)], .lst [.str ("grows" : Str), .str ("once" : Str), .str ("same" : Str), .str ("more" : Str)], .lst [.str ("same" : Str), .str ("falls" : Str), .str ("falls" : Str)], .lst [.str ("falls" : Str), .str ("grows" : Str), .str ("once" : Str), .str ("same" : Str), .str ("more" : Str)], .lst [.str ("same" : Str), .str ("grows" : Str)], .lst [.str ("once" : Str), .str ("falls" : Str), .str ("grows" : Str), .str ("falls" : Str)], .lst [.str ("falls" : Str), .str ("grows" : Str), .str ("once" : Str), .str ("same" : Str), .str ("more" : Str)], .lst [.str ("once" : Str), .str ("falls" : Str), .str ("same" : Str), .str ("falls" : Str)], .lst [.str ("falls" : Str), .str ("grows" : Str), .str ("once" : Str), .str ("same" : Str), .str ("more" : Str)], .lst [.str ("once" : Str), .str ("grows" : Str), .str ("falls" : Str), .str ("falls" : Str)], .lst [.str ("falls" : Str), .str ("grows" : Str), .str ("once" : Str), .str ("same" : Str), .str ("more" : Str)], .lst [.str ("once" : Str), .str ("grows" : Str), .str ("same" : Str), .str ("falls" : Str)], .lst [.str ("grows" : Str), .str ("once" : Str), .str ("same" : Str), .str ("more" : Str)], .lst [.str ("once" : Str), .str ("same" : Str), .str ("falls" : Str), .str ("falls" : Str)], .lst [.str ("falls" : Str), .str ("grows" : Str), .str ("once" : Str), .str ("same" : Str), .str ("more" : Str)], .lst [.str ("once" : Str), .str ("same" : Str), .str ("grows" : Str), .str ("falls" : Str)], .lst [.str ("grows" : Str), .str ("once" : Str), .str ("same" : Str), .str ("more" : Str)], .lst [.str ("falls" : Str), .str ("once" : Str), .str ("grows" : Str), .str ("falls" : Str)], .lst [.str ("falls" : Str), .str ("grows" : Str), .str ("once" : Str), .str ("same" : Str), .str ("more" : Str)], .lst [.str ("falls" : Str), .str ("once" : Str), .str ("same" : Str), .str ("falls" : Str)], .lst [.str ("falls" : Str), .str ("grows" : Str), .str ("once" : Str), .str ("same" : Str), .str ("more" : Str)], .lst [.str ("falls" : Str), .str ("grows" : Str), .str ("once" : Str), .str ("falls" : Str)], .lst [.str ("falls" : Str), .str ("grows" : Str), .str ("once" : Str), .str ("same" : Str), .str ("more" : Str)], .lst [.str ("falls" : Str), .str ("grows" : Str), .str ("same" : Str), .str ("falls" : Str)], .lst [.str ("falls" : Str), .str ("grows" : Str), .str ("once" : Str), .str ("same" : Str), .str ("more" : Str)], .lst [.str ("falls" : Str), .str ("same" : Str), .str ("once" : Str), .str ("falls" : Str)], .lst [.str ("falls" : Str), .str ("grows" : Str), .str ("once" : Str), .str ("same" : Str), .str ("more" : Str)]]
theorem ck6 (ns : List Int) (a b c : Int) : stepsL fB oc6 (.val (.scr ns) :: ex6) (.lst [.int a, .int b, .int c] :: mx6) = some (.val (.scr ns) :: ex7, .lst [.int a, .int b, .int c] :: mx7) := by kernel_rfl
def oc7 : List W := [.lst [.str ("falls" : Str), .str ("same" : Str), .str ("grows" : Str)], .lst [.str ("grows" : Str), .str ("once" : Str), .str ("falls" : Str)], .lst [.str ("grows" : Str), .str ("once" : Str), .str ("same" : Str)], .lst [.str ("grows" : Str), .str ("falls" : Str), .str ("once" : Str)]]
def ex8 : En := [.val (.cell 0), .val (.lst [.lst [], .lst [.str ("once" : Str)], .lst [.str ("falls" : Str), .str ("once" : Str)], .lst [.str ("grows" : Str)], .lst [.str ("grows" : Str), .str ("once" : Str)], .lst [.str ("grows" : Str), .str ("once" : Str), .str ("same" : Str)], .lst [.str ("falls" : Str), .str ("grows" : Str), .str ("once" : Str), .str ("same" : Str)]]), .val (.lst [.str ("grows" : Str), .str ("falls" : Str), .str ("once" : Str)]), .val (.lst [.str ("falls" : Str), .str ("grows" : Str), .str ("once" : Str), .str ("same" : Str)]), .val (.cell 60), .val (.ins 9 [.tup [.str ("falls" : Str), .str ("grows" : Str), .str ("once" : Str), .str ("same" : Str)]]), .no, .no]
def mx8 : Mem := [.lst [.str ("falls" : Str)], .lst [.str ("more" : Str)], .lst [.str ("once" : Str), .str ("falls" : Str)], .lst [.str ("once" : Str), .str ("more" : Str)], .lst [.str ("falls" : Str), .str ("falls" : Str)], .lst [.str ("falls" : Str), .str ("once" : Str), .str ("more" : Str)], .lst [.str ("grows" : Str), .str ("falls" : Str)], .lst [.str ("grows" : Str), .str ("more" : Str)], .lst [.str ("same" : Str)], .lst [.str ("once" : Str), .str ("falls" : Str), .str ("falls" : Str)], .lst [.str ("falls" : Str), .str ("once" : Str), .str ("more" : Str)], .lst [.str ("once" : Str), .str ("grows" : Str), .str ("falls" : Str)], .lst [.str ("grows" : Str), .str ("once" : Str), .str ("more" : Str)], .lst [.str ("once" : Str), .str ("same" : Str), .str ("falls" : Str)], .lst [.str ("grows" : Str), .str ("once" : Str), .str ("same" : Str), .str ("more" : Str)], .lst [.str ("falls" : Str), .str ("once" : Str), .str ("falls" : Str)], .lst [.str ("falls" : Str), .str ("once" : Str), .str ("more" : Str)], .lst [.str ("falls" : Str), .str ("grows" : Str), .str ("falls" : Str)], .lst [.str ("falls" : Str), .str ("grows" : Str), .str ("once" : Str), .str ("same" : Str), .str ("more" : Str)], .lst [.str ("falls" : Str), .str ("same" : Str), .str ("falls" : Str)], .lst [.str ("falls" : Str), .str ("grows" : Str), .str ("once" : Str), .str ("same" : Str), .str ("more" : Str)], .lst [.str ("grows" : Str), .str ("once" : Str), .str ("falls" : Str)], .lst [.str ("grows" : Str), .str ("once" : Str), .str ("more" : Str)], .lst [.str ("grows" : Str), .str ("falls" : Str), .str ("falls" : Str)], .lst [.str ("falls" : Str), .str ("grows" : Str), .str ("once" : Str), .str ("same" : Str), .str ("more" : Str)], .lst [.str ("grows" : Str), .str ("same" : Str)], .lst [.str ("same" : Str), .str ("once" : Str), .str ("falls" : Str)], .lst [.str ("grows" : Str), .str ("once" : Str), .str ("same" : Str), .str ("more" : Str)], .lst [.str ("same" : Str), .str ("falls" : Str), .str ("falls" : Str)], .lst [.str ("falls" : Str), .str ("grows" : Str), .str ("once" : Str), .str ("same" : Str), .str ("more" : Str)], .lst [.str ("same" : Str), .str ("grows" : Str)], .lst [.str ("once" : Str), .str ("falls" : Str), .str ("grows" : Str), .str ("falls" : Str)], .lst [.str ("falls" : Str), .str ("grows" : Str), .str ("once" : Str), .str ("same" : Str), .str ("more" : Str)], .lst [.str ("once" : Str), .str ("falls" : Str), .str ("same" : Str), .str ("falls" : Str)], .lst [.str ("falls" : Str), .str ("grows" : Str), .str ("once" : Str), .str ("same" : Str), .str ("more" : Str)], .lst [.str ("once" : Str), .str ("grows" : Str), .str ("falls" : Str), .str ("falls" : Str)], .lst [.str ("falls" : Str), .str ("grows" : Str), .str ("once" : Str), .str ("same" : Str), .str ("more" : Str)], .lst [.str ("once" : Str), .str ("grows" : Str), .str ("same" : Str), .str ("falls" : Str)], .lst [.str ("grows" : Str), .str ("once" : Str), .str ("same" : Str), .str ("more" : Str)], .lst [.str ("once" : Str), .str ("same" : Str), .str ("falls" : Str), .str ("falls" : Str)], .lst [.str ("falls" : Str), .str ("grows" : Str), .str ("once" : Str), .str ("same" : Str), .str ("more" : Str)], .lst [.str ("once" : Str), .str ("same" : Str), .str ("grows" : Str), .str ("falls" : Str)], .lst [.str ("grows" : Str), .str ("once" : Str), .str ("same" : Str), .str ("more" : Str)], .lst [.str ("falls" : Str), .str ("once" : Str), .str ("grows" : Str), .str ("falls" : Str)], .lst [.str ("falls" : Str), .str ("grows" : Str), .str ("once" : Str), .str ("same" : Str), .str ("more" : Str)], .lst [.str ("falls" : Str), .str ("once" : Str), .str ("same" : Str), .str ("falls" : Str)], .lst [.str ("falls" : Str), .str ("grows" : Str), .str ("once" : Str), .str ("same" : Str), .str ("more" : Str)], .lst [.str ("falls" : Str), .str ("grows" : Str), .str ("once" : Str), .str ("falls" : Str)], .lst [.str ("falls" : Str), .str ("grows" : Str), .str ("once" : Str), .str ("same" : Str), .str ("more" : Str)], .lst [.str ("falls" : Str), .str ("grows" : Str), .str ("same" : Str), .str ("falls" : Str)], .lst [.str ("falls" : Str), .str ("grows" : Str), .str ("once" : Str), .str ("same" : Str), .str ("more" : Str)], .lst [.str ("falls" : Str), .str ("same" : Str), .str ("once" : Str), .str ("falls" : Str)], .lst [.str ("falls" : Str), .str ("grows" : Str), .str ("once" : Str), .str ("same" : Str), .str ("more" : Str)], .lst [.str ("falls" : Str), .str ("same" : Str), .str ("grows" : Str), .str ("falls" : Str)], .lst [.str ("falls" : Str), .str ("grows" : Str), .str ("once" : Str), .str ("same" : Str), .str ("more" : Str)], .lst [.str ("grows" : Str), .str ("once" : Str), .str ("falls" : Str), .str ("falls" : Str)], .lst [.str ("falls" : Str), .str ("grows" : Str), .str ("once" : Str), .str ("same" : Str), .str ("more" : Str)], .lst [.str ("grows" : Str), .str ("once" : Str), .str ("same" : Str), .str ("falls" : Str)], .lst [.str ("grows" : Str), .str ("once" : Str), .str ("same" : Str), .str ("more" : Str)], .lst [.str ("grows" : Str), .str ("falls" : Str), .str ("once" : Str), .str ("falls" : Str)], .lst [.str ("falls" : Str), .str ("grows" : Str), .str ("once" : Str), .str ("same" : Str), .str ("more" : Str)]]
theorem ck7 (ns : List Int) (a b c : Int) : stepsL fB oc7 (.val (.scr ns) :: ex7) (.lst [.int a, .int b, .int c] :: mx7) = some (.val (.scr ns) :: ex8, .lst [.int a, .int b, .int c] :: mx8) := by kernel_rfl
def oc8 : List W := [.lst [.str ("grows" : Str), .str ("falls" : Str), .str ("same" : Str)], .lst [.str ("grows" : Str), .str ("same" : Str), .str ("once" : Str)], .lst [.str ("grows" : Str), .str ("same" : Str), .str ("falls" : Str)], .lst [.str ("same" : Str), .str ("once" : Str), .str ("falls" : Str)]]
def ex9 : En := [.val (.cell 0), .val (.lst [.lst [], .lst [.str ("once" : Str)], .lst [.str ("falls" : Str), .str ("once" : Str)], .lst [.str ("grows" : Str)], .lst [.str ("grows" : Str), .str ("once" : Str)], .lst [.str ("grows" : Str), .str ("once" : Str), .str ("same" : Str)], .lst [.str ("falls" : Str), .str ("grows" : Str), .str ("once" : Str), .str ("same" : Str)]]), .val (.lst [.str ("same" : Str), .str ("once" : Str), .str ("falls" : Str)]), .val (.lst [.str ("falls" : Str), .str ("grows" : Str), .str ("once" : Str), .str ("same" : Str)]), .val (.cell 68), .val (.ins 9 [.tup [.str ("falls" : Str), .str ("grows" : Str), .str ("once" : Str), .str ("same" : Str)]]), .no, .no]
def mx9 : Mem := [.lst [.str ("falls" : Str)], .lst [.str ("more" : Str)], .lst [.str ("once" : Str), .str ("falls" : Str)], .lst [.str ("once" : Str), .str ("more" : Str)], .lst [.str ("falls" : Str), .str ("falls" : Str)], .lst [.str ("falls" : Str), .str ("once" : Str), .str ("more" : Str)], .lst [.str ("grows" : Str), .str ("falls" : Str)], .lst [.str ("grows" : Str), .str ("more" : Str)], .lst [.str ("same" : Str)], .lst [.str ("once" : Str), .str ("falls" : Str), .str ("falls" : Str)], .lst [.str ("falls" : Str), .str ("once" : Str), .str ("more" : Str)], .lst [.str ("once" : Str), .str ("grows" : Str), .str ("falls" : Str)], .lst [.str ("grows" : Str), .str ("once" : Str), .str ("more" : Str)], .lst [.str ("once" : Str), .str ("same" : Str), .str ("falls" : Str)], .lst [.str ("grows" : Str), .str ("once" : Str), .str ("same" : Str), .str ("more" : Str)], .lst [.str ("falls" : Str), .str ("once" : Str), .str ("falls" : Str)], .lst [.str ("falls" : Str), .str ("once" : Str), .str ("more" : Str)], .lst [.str ("falls" : Str), .str ("grows" : Str), .str ("falls" : Str)], .lst [.str ("falls" : Str), .str ("grows" : Str), .str ("once" : Str), .str ("same" : Str), .str ("more" : Str)], .lst [.str ("falls" : Str), .str ("same" : Str), .str ("falls" : Str)], .lst [.str ("falls" : Str), .str ("grows" : Str), .str ("once" : Str), .str ("same" : Str), .str ("more" : Str)], .lst [.str ("grows" : Str), .str ("once" : Str), .str ("falls" : Str)], .lst [.str ("grows" : Str), .str ("once" : Str), .str ("more" : Str)], .lst [.str ("grows" : Str), .str ("falls" : Str), .str ("falls" : Str)], .lst [.str ("falls" : Str), .str ("grows" : Str), .str ("once" : Str), .str ("same" : Str), .str ("more" : Str)], .lst [.str ("grows" : Str), .str ("same" : Str)], .lst [.str ("same" : Str), .str ("once" : Str), .str ("falls" : Str)], .lst [.str ("grows" : Str), .str ("once" : Str), .str ("same" : Str), .str ("more" : Str)], .lst [.str ("same" : Str), .str ("falls" : Str), .str ("falls" : Str)], .lst [.str ("falls" : Str), .str ("grows" : Str), .str ("once" : Str), .str ("same" : Str), .str ("more" : Str)], .lst [.str ("same" : Str), .str ("grows" : Str)], .lst [.str ("once" : Str), .str ("falls" : Str), .str ("grows" : Str), .str ("falls" : Str)], .lst [.str ("falls" : Str), .str ("grows" : Str), .str ("once" : Str), .str ("same" : Str), .str ("more" : Str)], .lst [.str ("once" : Str), .str ("falls" : Str), .str ("same" : Str), .str ("falls" : Str)], .lst [.str ("falls" : Str), .str ("grows" : Str), .str ("once" : Str), .str ("same" : Str), .str ("more" : Str)], .lst [.str ("once" : Str), .str ("grows" : Str), .str ("falls" : Str), .str ("falls" : Str)], .lst [.str ("falls" : Str), .str ("grows" : Str), .str ("once" : Str), .str ("same" : Str), .str ("more" : Str)], .lst [.str ("once" : Str), .str ("grows" : Str), .str ("same" : Str), .str ("falls" : Str)], .lst [.str ("grows" : Str), .str ("once" : Str), .str ("same" : Str), .str ("more" : Str)], .lst [.str ("once" : Str), .str ("same" : Str), .str ("falls" : Str), .str ("falls" : Str)], .lst [.str ("falls" : Str), .str ("grows" : Str), .str ("once" : Str), .str ("same" : Str), .str ("more" : Str)], .lst [.str ("once" : Str), .str ("same" : Str), .str ("grows" : Str), .str ("falls" : Str)], .lst [.str ("grows" : Str), .str ("once" : Str), .str ("same" : Str), .str ("more" : Str)], .lst [.str ("falls" : Str), .str ("once" : Str), .str ("grows" : Str), .str ("falls" : Str)], .lst [.str ("falls" : Str), .str ("grows" : Str), .str ("once" : Str), .str ("same" : Str), .str ("more" : Str)], .lst [.str ("falls" : Str), .str ("once" : Str), .str ("same" : Str), .str ("falls" : Str)], .lst [.str ("falls" : Str), .str ("grows" : Str), .str ("once" : Str), .str ("same" : Str), .str ("more" : Str)], .lst [.str ("falls" : Str), .str ("grows" : Str), .str ("once" : Str), .str ("falls" : Str)], .lst [.str ("falls" : Str), .str ("grows" : Str), .str ("once" : Str), .str ("same" : Str), .str ("more" : Str)], .lst [.str ("falls" : Str), .str ("grows" : Str), .str ("same" : Str), .str ("falls" : Str)], .lst [.str ("falls" : Str), .str ("grows" : Str), .str ("once" : Str), .str ("same" : Str), .str ("more" : Str)], .lst [.str ("falls" : Str), .str ("same" : Str), .str ("once" : Str), .str ("falls" : Str)], .lst [.str ("falls" : Str), .str ("grows" : Str), .str ("once" : Str), .str ("same" : Str), .str ("more" : Str)], .lst [.str ("falls" : Str), .str ("same" : Str), .str ("grows" : Str), .str ("falls" : Str)], .lst [.str ("falls" : Str), .str ("grows" : Str), .str ("once" : Str), .str ("same" : Str), .str ("more" : Str)], .lst [.str ("grows" : Str), .str ("once" : Str), .str ("falls" : Str), .str ("falls" : Str)], .lst [.str ("falls" : Str), .str ("grows" : Str), .str ("once" : Str), .str ("same" : Str), .str ("more" : Str)], .lst [.str ("grows" : Str), .str ("once" : Str), .str ("same" : Str), .str ("falls" : Str)], .lst [.str ("grows" : Str), .str ("once" : Str), .str ("same" : Str), .str ("more" : Str)], .lst [.str ("grows" : Str), .str ("falls" : Str), .str ("once" : Str), .str ("falls" : Str)], .lst [.str ("falls" : Str), .str ("grows" : Str), .str ("once" : Str), .str ("same" : Str), .str ("more" : Str)], .lst [.str ("grows" : Str), .str ("falls" : Str), .str ("same" : Str), .str ("falls" : Str)], .lst [.str ("falls" : Str), .str ("grows" : Str), .str ("once" : Str), .str ("same" : Str), .str ("more" : Str)], .lst [.str ("grows" : Str), .str ("same" : Str), .str ("once" : Str), .str ("falls" : Str)], .lst [.str ("grows" : Str), .str ("once" : Str), .str ("same" : Str), .str ("more" : Str)], .lst [.str ("grows" : Str), .str ("same" : Str), .str ("falls" : Str), .str ("falls" : Str)], .lst [.str ("falls" : Str), .str ("grows" : Str), .str ("once" : Str), .str ("same" : Str), .str ("more" : Str)], .lst [.str ("same" : Str), .str ("once" : Str), .str ("falls" : Str), .str ("falls" : Str)], .lst [.str ("falls" : Str), .str ("grows" : Str), .str ("once" : Str), .str ("same" : Str), .str ("more" : Str)]]
theorem ck8 (ns : List Int) (a b c : Int) : stepsL fB oc8 (.val (.scr ns) :: ex8) (.lst [.int a, .int b, .int c] :: mx8) = some (.val (.scr ns) :: ex9, .lst [.int a, .int b, .int c] :: mx9) := by kernel_rfl
def oc9 : List W := [.lst [.str ("same" : Str), .str ("once" : Str), .str ("grows" : Str)], .lst [.str ("same" : Str), .str ("falls" : Str), .str ("once" : Str)], .lst [.str ("same" : Str), .str ("falls" : Str), .str ("grows" : Str)], .lst [.str ("same" : Str), .str ("grows" : Str), .str ("once" : Str)]]
def ex10 : En := [.val (.cell 0), .val (.lst [.lst [], .lst [.str ("once" : Str)], .lst [.str ("falls" : Str), .str ("once" : Str)], .lst [.str ("grows" : Str)], .lst [.str ("grows" : Str), .str ("once" : Str)], .lst [.str ("grows" : Str), .str ("once" : Str), .str ("same" : Str)], .lst [.str ("falls" : Str), .str ("grows" : Str), .str ("once" : Str), .str ("same" : Str)]]), .val (.lst [.str ("same" : Str), .str ("grows" : Str), .str ("once" : Str)]), .val (.lst [.str ("grows" : Str), .str ("once" : Str), .str ("same" : Str)]), .val (.cell 76), .val (.ins 9 [.tup [.str ("grows" : Str), .str ("once" : Str), .str ("same" : Str)]]), .no, .no]
def mx10 : Mem := [.lst [.str ("falls" : Str)], .lst [.str ("more" : Str)], .lst [.str ("once" : Str), .str ("falls" : Str)], .lst [.str ("once" : Str), .str ("more" : Str)], .lst [.str ("falls" : Str), .str ("falls" : Str)], .lst [.str ("falls" : Str), .str ("once" : Str), .str ("more" : Str)], .lst [.str ("grows" : Str), .str ("falls" : Str)], .lst [.str ("grows" : Str), .str ("more" : Str)], .lst [.str ("same" : Str)], .lst [.str ("once" : Str), .str ("falls" : Str), .str ("falls" : Str)], .lst [.str ("falls" : Str), .str ("once" : Str), .str ("more" : Str)], .lst [.str ("once" : Str), .str ("grows" : Str), .str ("falls" : Str)], .lst [.str ("grows" : Str), .str ("once" : Str), .str ("more" : Str)], .lst [.str ("once" : Str), .str ("same" : Str), .str ("falls" : Str)], .lst [.str ("grows" : Str), .str ("once" : Str), .str ("same" : Str), .str ("more" : Str)], .lst [.str ("falls" : Str), .str ("once" : Str), .str ("falls" : Str)], .lst [.str ("falls" : Str), .str ("once" : Str), .str ("more" : Str)], .lst [.str ("falls" : Str), .str ("grows" : Str), .str ("falls" : Str)], .lst [.str ("falls" : Str), .str ("grows" : Str), .str ("once" : Str), .str ("same" : Str), .str ("more" : Str)], .lst [.str ("falls" : Str), .str ("same" : Str), .str ("falls" : Str)], .lst [.str ("falls" : Str), .str ("grows" : Str), .str ("once" : Str), .str ("same" : Str), .str ("more" : Str)], .lst [.str ("grows" : Str), .str ("once" : Str), .str ("falls" : Str)], .lst [.str ("grows" : Str), .str ("once" : Str), .str ("more" : Str)], .lst [.str ("grows" : Str), .str ("falls" : Str), .str ("falls" : Str)], .lst [.str ("falls" : Str), .str ("grows" : Str), .str ("once" : Str), .str ("same" : Str), .str ("more" : Str)], .lst [.str ("grows" : Str), .str ("same" : Str)], .lst [.str ("same" : Str), .str ("once" : Str), .str ("falls" : Str)], .lst [.str ("grows" : Str), .str ("once" : Str), .str ("same" : Str), .str ("more" : Str)], .lst [.str ("same" : Str), .str ("falls" : Str), .str ("falls" : Str)], .lst [.str ("falls" : Str), .str ("grows" : Str), .str ("once" : Str), .str ("same" : Str), .str ("more" : Str)], .lst [.str ("same" : Str), .str ("grows" : Str)], .lst [.str ("once" : Str), .str ("falls" : Str), .str ("grows" : Str), .str ("falls" : Str)], .lst [.str ("falls" : Str), .str ("grows" : Str), .str ("once" : Str), .str ("same" : Str), .str ("more" : Str)], .lst [.str ("once" : Str), .str ("falls" : Str), .str ("same" : Str), .str ("falls" : Str)], .lst [.str ("falls" : Str), .str ("grows" : Str), .str ("once" : Str), .str ("same" : Str), .str ("more" : Str)], .lst [.str ("once" : Str), .str ("grows" : Str), .str ("falls" : Str), .str ("falls" : Str)], .lst [.str ("falls" : Str), .str ("grows" : Str), .str ("once" : Str), .str ("same" : Str), .str ("more" : Str)], .lst [.str ("once" : Str), .str ("grows" : Str), .str ("same" : Str), .str ("falls" : Str)], .lst [.str ("grows" : Str), .str ("once" : Str), .str ("same" : Str), .str ("more" : Str)], .lst [.str ("once" : Str), .str ("same" : Str), .str ("falls" : Str), .str ("falls" : Str)], .lst [.str ("falls" : Str), .str ("grows" : Str), .str ("once" : Str), .str ("same" : Str), .str ("more" : Str)], .lst [.str ("once" : Str), .str ("same" : Str), .str ("grows" : Str), .str ("falls" : Str)], .lst [.str ("grows" : Str), .str ("once" : Str), .str ("same" : Str), .str ("more" : Str)], .lst [.str ("falls" : Str), .str ("once" : Str), .str ("grows" : Str), .str ("falls" : Str)], .lst [.str ("falls" : Str), .str ("grows" : Str), .str ("once" : Str), .str ("same" : Str), .str ("more" : Str)], .lst [.str ("falls" : Str), .str ("once" : Str), .str ("same" : Str), .str ("falls" : Str)], .lst [.str ("falls" : Str), .str ("grows" : Str), .str ("once" : Str), .str ("same" : Str), .str ("more" : Str)], .lst [.str ("falls" : Str), .str ("grows" : Str), .str ("once" : Str), .str ("falls" : Str)], .lst [.str ("falls" : Str), .str ("grows" : Str), .str ("once" : Str), .str ("same" : Str), .str ("more" : Str)], .lst [.str ("falls" : Str), .str ("grows" : Str), .str ("same" : Str), .str ("falls" : Str)], .lst [.str ("falls" : Str), .str ("grows" : Str), .str ("once" : Str), .str ("same" : Str), .str ("more" : Str)], .lst [.str ("falls" : Str), .str ("same" : Str), .str ("once" : Str), .str ("falls" : Str)], .lst [.str ("falls" : Str), .str ("grows" : Str), .str ("once" : Str), .str ("same" : Str), .str ("more" : Str)], .lst [.str ("falls" : Str), .str ("same" : Str), .str ("grows" : Str), .str ("falls" : Str)], .lst [.str ("falls" : Str), .str ("grows" : Str), .str ("once" : Str), .str ("same" : Str), .str ("more" : Str)], .lst [.str ("grows" : Str), .str ("once" : Str), .str ("falls" : Str), .str ("falls" : Str)], .lst [.str ("falls" : Str), .str ("grows" : Str), .str ("once" : Str), .str ("same" : Str), .str ("more" : Str)], .lst [.str ("grows" : Str), .str ("once" : Str), .str ("same" : Str), .str ("falls" : Str)], .lst [.str ("grows" : Str), .str ("once" : Str), .str ("same" : Str), .str ("more" : Str)], .lst [.str ("grows" : Str), .str ("falls" : Str), .str ("once" : Str), .str ("falls" : Str)], .lst [.str ("falls" : Str), .str ("grows" : Str), .str ("once" : Str), .str ("same" : Str), .str ("more" : Str)], .lst [.str ("grows" : Str), .str ("falls" : Str), .str ("same" : Str), .str ("falls" : Str)], .lst [.str ("falls" : Str), .str ("grows" : Str), .str ("once" : Str), .str ("same" : Str), .str ("more" : Str)], .lst [.str ("grows" : Str), .str ("same" : Str), .str ("once" : Str), .str ("falls" : Str)], .lst [.str ("grows" : Str), .str ("once" : Str), .str ("same" : Str), .str ("more" : Str)], .lst [.str ("grows" : Str), .str ("same" : Str), .str ("falls" : Str), .str ("falls" : Str)], .lst [.str ("falls" : Str), .str ("grows" : Str), .str ("once" : Str), .str ("same" : Str), .str ("more" : Str)], .lst [.str ("same" : Str), .str ("once" : Str), .str ("falls" : Str), .str ("falls" : Str)], .lst [.str ("falls" : Str), .str ("grows" : Str), .str ("once" : Str), .str ("same" : Str), .str ("more" : Str)], .lst [.str ("same" : Str), .str ("once" : Str), .str ("grows" : Str), .str ("falls" : Str)], .lst [.str ("grows" : Str), .str ("once" : Str), .str ("same" : Str), .str ("more" : Str)], .lst [.str ("same" : Str), .str ("falls" : Str), .str ("once" : Str), .str ("falls" : Str)], .lst [.str ("falls" : Str), .str ("grows" : Str), .str ("once" : Str), .str ("same" : Str), .str ("more" : Str)], .lst [.str ("same" : Str), .str ("falls" : Str), .str ("grows" : Str), .str ("falls" : Str)], .lst [.str ("falls" : Str), .str ("grows" : Str), .str ("once" : Str), .str ("same" : Str), .str ("more" : Str)], .lst [.str ("same" : Str), .str ("grows" : Str), .str ("once" : Str), .str ("falls" : Str)], .lst [.str ("grows" : Str), .str ("once" : Str), .str ("same" : Str), .str ("more" : Str)]]
theorem ck9 (ns : List Int) (a b c : Int) : stepsL fB oc9 (.val (.scr ns) :: ex9) (.lst [.int a, .int b, .int c] :: mx9) = some (.val (.scr ns) :: ex10, .lst [.int a, .int b, .int c] :: mx10) := by kernel_rfl
def oc10 : List W := [.lst [.str ("same" : Str), .str ("grows" : Str), .str ("falls" : Str)], .lst [.str ("once" : Str), .str ("falls" : Str), .str ("grows" : Str), .str ("same" : Str)], .lst [.str ("once" : Str), .str ("falls" : Str), .str ("same" : Str), .str ("grows" : Str)], .lst [.str ("once" : Str), .str ("grows" : Str), .str ("falls" : Str), .str ("same" : Str)]]
def ex11 : En := [.val (.cell 0), .val (.lst [.lst [], .lst [.str ("once" : Str)], .lst [.str ("falls" : Str), .str ("once" : Str)], .lst [.str ("grows" : Str)], .lst [.str ("grows" : Str), .str ("once" : Str)], .lst [.str ("grows" : Str), .str ("once" : Str), .str ("same" : Str)], .lst [.str ("falls" : Str), .str ("grows" : Str), .str ("once" : Str), .str ("same" : Str)]]), .val (.lst [.str ("once" : Str), .str ("grows" : Str), .str ("falls" : Str), .str ("same" : Str)]), .val (.lst [.str ("falls" : Str), .str ("grows" : Str), .str ("once" : Str), .str ("same" : Str)]), .val (.cell 84), .val (.ins 9 [.tup [.str ("falls" : Str), .str ("grows" : Str), .str ("once" : Str), .str ("same" : Str)]]), .no, .no]
def mx11 : Mem := [.lst [.str ("falls" : Str)], .lst [.str ("more" : Str)], .lst [.str ("once" : Str), .str ("falls" : Str)], .lst [.str ("once" : Str), .str ("more" : Str)], .lst [.str ("falls" : Str), .str ("falls" : Str)], .lst [.str ("falls" : Str), .str ("once" : Str), .str ("more" : Str)], .lst [.str ("grows" : Str), .str ("falls" : Str)], .lst [.str ("grows" : Str), .str ("more" : Str)], .lst [.str ("same" : Str)], .lst [.str ("once" : Str), .str ("falls" : Str), .str ("falls" : Str)], .lst [.str ("falls" : Str), .str ("once" : Str), .str ("more" : Str)], .lst [.str ("once" : Str), .str ("grows" : Str), .str ("falls" : Str)], .lst [.str ("grows" : Str), .str ("once" : Str), .str ("more" : Str)], .lst [.str ("once" : Str), .str ("same" : Str), .str ("falls" : Str)], .lst [.str ("grows" : Str), .str ("once" : Str), .str ("same" : Str), .str ("more" : Str)], .lst [.str ("falls" : Str), .str ("once" : Str), .str ("falls" : Str)], .lst [.str ("falls" : Str), .str ("once" : Str), .str ("more" : Str)], .lst [.str ("falls" : Str), .str ("grows" : Str), .str ("falls" : Str)], .lst [.str ("falls" : Str), .str ("grows" : Str), .str ("once" : Str), .str ("same" : Str), .str ("more" : Str)], .lst [.str ("falls" : Str), .str ("same" : Str), .str ("falls" : Str)], .lst [.str ("falls" : Str), .str ("grows" : Str), .str ("once" : Str), .str ("same" : Str), .str ("more" : Str)], .lst [.str ("grows" : Str), .str ("once" : Str), .str ("falls" : Str)], .lst [.str ("grows" : Str), .str ("once" : Str), .str ("more" : Str)], .lst [.str ("grows" : Str), .str ("falls" : Str), .str ("falls" : Str)], .lst [.str ("falls" : Str), .str ("grows" : Str), .str ("once" : Str), .str ("same" : Str), .str ("more" : Str)], .lst [.str ("grows" : Str), .str ("same" : Str)], .lst [.str ("same" : Str), .str ("once" : Str), .str ("falls" : Str)], .lst [.str ("grows" : Str), .str ("once" : Str), .str ("same" : Str), .str ("more" : Str)], .lst [.str ("same" : Str), .str ("falls" : Str), .str ("falls" : Str)], .lst [.str ("falls" : Str), .str ("grows" : Str), .str ("once" : Str), .str ("same" : Str), .str ("more" : Str)], .lst [.str ("same" : Str), .str ("grows" : Str)], .lst [.str ("once" : Str), .str ("falls" : Str), .str ("grows" : Str), .str ("falls" : Str)], .lst [.str ("falls" : Str), .str ("grows" : Str), .str ("once" : Str), .str ("same" : Str), .str ("more" : Str)], .lst [.str ("once" : Str), .str ("falls" : Str), .str ("same" : Str), .str ("falls" : Str)], .lst [.str ("falls" : Str), .str ("grows" : Str), .str ("once" : Str), .str ("same" : Str), .str ("more" : Str)], .lst [.str ("once" : Str), .str ("grows" : Str), .str ("falls" : Str), .str ("falls" : Str)], .lst [.str ("falls" : Str), .str ("grows" : Str), .str ("once" : Str), .str ("same" : Str), .str ("more" : Str)], .lst [.str ("once" : Str), .str ("grows" : Str), .str ("same" : Str), .str ("falls" : Str)], .lst [.str ("grows" : Str), .str ("once" : Str), .str ("same" : Str), .str ("more" : Str)], .lst [.str ("once" : Str), .str ("same" : Str), .str ("falls" : Str), .str ("falls" : Str)], .lst [.str ("falls" : Str), .str ("grows" : Str), .str ("once" : Str), .str ("same" : Str), .str ("more" : Str)], .lst [.str ("once" : Str), .str ("same" : Str), .str ("grows" : Str), .str ("falls" : Str)], .lst [.str ("grows" : Str), .str ("once" : Str), .str ("same" : Str), .str ("more" : Str)], .lst [.str ("falls" : Str), .str ("once" : Str), .str ("grows" : Str), .str ("falls" : Str)], .lst [.str ("falls" : Str), .str ("grows" : Str), .str ("once" : Str), .str ("same" : Str), .str ("more" : Str)], .lst [.str ("falls" : Str), .str ("once" : Str), .str ("same" : Str), .str ("falls" : Str)], .lst [.str ("falls" : Str), .str ("grows" : Str), .str ("once" : Str), .str ("same" : Str), .str ("more" : Str)], .lst [.str ("falls" : Str), .str ("grows" : Str), .str ("once" : Str), .str ("falls" : Str)], .lst [.str ("falls" : Str), .str ("grows" : Str), .str ("once" : Str), .str ("same" : Str), .str ("more" : Str)], .lst [.str ("falls" : Str), .str ("grows" : Str), .str ("same" : Str), .str ("falls" : Str)], .lst [.str ("falls" : Str), .str ("grows" : Str), .str ("once" : Str), .str ("same" : Str), .str ("more" : Str)], .lst [.str ("falls" : Str), .str ("same" : Str), .str ("once" : Str), .str ("falls" : Str)], .lst [.str ("falls" : Str), .str ("grows" : Str), .str ("once" : Str), .str ("same" : Str), .str ("more" : Str)], .lst [.str ("falls" : Str), .str ("same" : Str), .str ("grows" : Str), .str ("falls" : Str)], .lst [.str ("falls" : Str), .str ("grows" : Str), .str ("once" : Str), .str ("same" : Str), .str ("more" : Str)], .lst [.str ("grows" : Str), .str ("once" : Str), .str ("falls" : Str), .str ("falls" : Str)], .lst [.str ("falls" : Str), .str ("grows" : Str), .str ("once" : Str), .str ("same" : Str), .str ("more" : Str)], .lst [.str ("grows" : Str), .str ("once" : Str), .str ("same" : Str), .str ("falls" : Str)], .lst [.str ("grows" : Str), .str ("once" : Str), .str ("same" : Str), .str ("more" : Str)], .lst [.str ("grows" : Str), .str ("falls" : Str), .str ("once" : Str), .str ("falls" : Str)], .lst [.str ("falls" : Str), .str ("grows" : Str), .str ("once" : Str), .str ("same" : Str), .str ("more" : Str)], .lst [.str ("grows" : Str), .str ("falls" : Str), .str ("same" : Str), .str ("falls" : Str)], .lst [.str ("falls" : Str), .str ("grows" : Str), .str ("once" : Str), .str ("same" : Str), .str ("more" : Str)], .lst [.str ("grows" : Str), .str ("same" : Str), .str ("once" : Str), .str ("falls" : Str)], .lst [.str ("grows" : Str), .str ("once" : Str), .str ("same" : Str), .str ("more" : Str)], .lst [.str ("grows" : Str), .str ("same" : Str), .str ("falls" : Str), .str ("falls" : Str)], .lst [.str ("falls" : Str), .str ("grows" : Str), .str ("once" : Str), .str ("same" : Str), .str ("more" : Str)], .lst [.str ("same" : Str), .str ("once" : Str), .str ("falls" : Str), .str ("falls" : Str)], .lst [.str ("falls" : Str), .str ("grows" : Str), .str ("once" : Str), .str ("same" : Str), .str ("more" : Str)], .lst [.str ("same" : Str), .str ("once" : Str), .str ("grows" : Str), .str ("falls" : Str)], .lst [.str ("grows" : Str), .str ("once" : Str), .str ("same" : Str), .str ("more" : Str)], .lst [.str ("same" : Str), .str ("falls" : Str), .str ("once" : Str), .str ("falls" : Str)], .lst [.str ("falls" : Str), .str ("grows" : Str), .str ("once" : Str), .str ("same" : Str), .str ("more" : Str)], .lst [.str ("same" : Str), .str ("falls" : Str), .str ("grows" : Str), .str ("falls" : Str)], .lst [.str ("falls" : Str), .str ("grows" : Str), .str ("once" : Str), .str ("same" : Str), .str ("more" : Str)], .lst [.str ("same" : Str), .str ("grows" : Str), .str ("once" : Str), .str ("falls" : Str)], .lst [.str ("grows" : Str), .str ("once" : Str), .str ("same" : Str), .str ("more" : Str)], .lst [.str ("same" : Str), .str ("grows" : Str), .str ("falls" : Str), .str ("falls" : Str)], .lst [.str ("falls" : Str), .str ("grows" : Str), .str ("once" : Str), .str ("same" : Str), .str ("more" : Str)], .lst [.str ("once" : Str), .str ("falls" : Str), .str ("grows" : Str), .str ("same" : Str), .str ("falls" : Str)], .lst [.str ("falls" : Str), .str ("grows" : Str), .str ("once" : Str), .str ("same" : Str), .str ("more" : Str)], .lst [.str ("once" : Str), .str ("falls" : Str), .str ("same" : Str), .str ("grows" : Str), .str ("falls" : Str)], .lst [.str ("falls" : Str), .str ("grows" : Str), .str ("once" : Str), .str ("same" : Str), .str ("more" : Str)], .lst [.str ("once" : Str), .str ("grows" : Str), .str ("falls" : Str), .str ("same" : Str), .str ("falls" : Str)], .lst [.str ("falls" : Str), .str ("grows" : Str), .str ("once" : Str), .str ("same" : Str), .str ("more" : Str)]]
theorem ck10 (ns : List Int) (a b c : Int) : stepsL fB oc10 (.val (.scr ns) :: ex10) (.lst [.int a, .int b, .int c] :: mx10) = some (.val (.scr ns) :: ex11, .lst [.int a, .int b, .int c] :: mx11) := by kernel_rfl
def oc11 : List W := [.lst [.str ("once" : Str), .str ("grows" : Str), .str ("same" : Str), .str ("falls" : Str)], .lst [.str ("once" : Str), .str ("same" : Str), .str ("falls" : Str), .str ("grows" : Str)], .lst [.str ("once" : Str), .str ("same" : Str), .str ("grows" : Str), .str ("falls" : Str)], .lst [.str ("falls" : Str), .str ("once" : Str), .str ("grows" : Str), .str ("same" : Str)]]
def ex12 : En := [.val (.cell 0), .val (.lst [.lst [], .lst [.str ("once" : Str)], .lst [.str ("falls" : Str), .str ("once" : Str)], .lst [.str ("grows" : Str)], .lst [.str ("grows" : Str), .str ("once" : Str)], .lst [.str ("grows" : Str), .str ("once" : Str), .str ("same" : Str)], .lst [.str ("falls" : Str), .str ("grows" : Str), .str ("once" : Str), .str ("same" : Str)]]), .val (.lst [.str ("falls" : Str), .str ("once" : Str), .str ("grows" : Str), .str ("same" : Str)]), .val (.lst [.str ("falls" : Str), .str ("grows" : Str), .str ("once" : Str), .str ("same" : Str)]), .val (.cell 92), .val (.ins 9 [.tup [.str ("falls" : Str), .str ("grows" : Str), .str ("once" : Str), .str ("same" : Str)]]), .no, .no]
def mx12 : Mem := [.lst [.str ("falls" : Str)], .lst [.str ("more" : Str)], .lst [.str ("once" : Str), .str ("falls" : Str)], .lst [.str ("once" : Str), .str ("more" : Str)], .lst [.str ("falls" : Str), .str ("falls" : Str)], .lst [.str ("falls" : Str), .str ("once" : Str), .str ("more" : Str)], .lst [.str ("grows" : Str), .str ("falls" : Str)], .lst [.str ("grows" : Str), .str ("more" : Str)], .lst [.str ("same" : Str)], .lst [.str ("once" : Str), .str ("falls" : Str), .str ("falls" : Str)], .lst [.str ("falls" : Str), .str ("once" : Str), .str ("more" : Str)], .lst [.str ("once" : Str), .str ("grows" : Str), .str ("falls" : Str)], .lst [.str ("grows" : Str), .str ("once" : Str), .str ("more" : Str)], .lst [.str ("once" : Str), .str ("same" : Str), .str ("falls" : Str)], .lst [.str ("grows" : Str), .str ("once" : Str), .str ("same" : Str), .str ("more" : Str)], .lst [.str ("falls" : Str), .str ("once" : Str), .str ("falls" : Str)], .lst [.str ("falls" : Str), .str ("once" : Str), .str ("more" : Str)], .lst [.str ("falls" : Str), .str ("grows" : Str), .str ("falls" : Str)], .lst [.str ("falls" : Str), .str ("grows" : Str), .str ("once" : Str), .str ("same" : Str), .str ("more" : Str)], .lst [.str ("falls" : Str), .str ("same" : Str), .str ("falls" : Str)], .lst [.str ("falls" : Str), .str ("grows" : Str), .str ("once" : Str), .str ("same" : Str), .str ("more" : Str)], .lst [.str ("grows" : Str), .str ("once" : Str), .str ("falls" : Str)], .lst [.str ("grows" : Str), .str ("once" : Str), .str ("more" : Str)], .lst [.str ("grows" : Str), .str ("falls" : Str), .str ("falls" : Str)], .lst [.str ("falls" : Str), .str ("grows" : Str), .str ("once" : Str), .str ("same" : Str), .str ("more" : Str)], .lst [.str ("grows" : Str), .str ("same" : Str)], .lst [.str ("same" : Str), .str ("once" : Str), .str ("falls" : Str)], .lst [.str ("grows" : Str), .str ("once" : Str), .str ("same" : Str), .str ("more" : Str)], .lst [.str ("same" : Str), .str ("falls" : Str), .str ("falls" : Str)], .lst [.str ("falls" : Str), .str ("grows" : Str), .str ("once" : Str), .str ("same" : Str), .str ("more" : Str)], .lst [.str ("same" : Str), .str ("grows" : Str)], .lst [.str ("once" : Str), .str ("falls" : Str), .str ("grows" : Str), .str ("falls" : Str)], .lst [.str ("falls" : Str), .str ("grows" : Str), .str ("once" : Str), .str ("same" : Str), .str ("more" : Str)], .lst [.str ("once" : Str), .str ("falls" : Str), .str ("same" : Str), .str ("falls" : Str)], .lst [.str ("falls" : Str), .str ("grows" : Str), .str ("once" : Str), .str ("same" : Str), .str ("more" : Str)], .lst [.str ("once" : Str), .str ("grows" : Str), .str ("falls" : Str), .str ("falls" : Str)], .lst [.str ("falls" : Str), .str ("grows" : Str), .str ("once" : Str), .str ("same" : Str), .str ("more" : Str)], .lst [.str ("once" : Str), .str ("grows" : Str), .str ("same" : Str), .str ("falls" : Str)], .lst [.str ("grows" : Str), .str ("once" : Str), .str ("same" : Str), .str ("more" : Str)], .lst [.str ("once" : Str), .str ("same" : Str), .str ("falls" : Str), .str ("falls" : Str)], .lst [.str ("falls" : Str), .str ("grows" : Str), .str ("once" : Str), .str ("same" : Str), .str ("more" : Str)], .lst [.str ("once" : Str), .str ("same" : Str), .str ("grows" : Str), .str ("falls" : Str)], .lst [.str ("grows" : Str), .str ("once" : Str), .str ("same" : Str), .str ("more" : Str)], .lst [.str ("falls" : Str), .str ("once" : Str), .str ("grows" : Str), .str ("falls" : Str)], .lst [.str ("falls" : Str), .str ("grows" : Str), .str ("once" : Str), .str ("same" : Str), .str ("more" : Str)], .lst [.str ("falls" : Str), .str ("once" : Str), .str ("same" : Str), .str ("falls" : Str)], .lst [.str ("falls" : Str), .str ("grows" : Str), .str ("once" : Str), .str ("same" : Str), .str ("more" : Str)], .lst [.str ("falls" : Str), .str ("grows" : Str), .str ("once" : Str), .str ("falls" : Str)], .lst [.str ("falls" : Str), .str ("grows" : Str), .str ("once" : Str), .str ("same" : Str), .str ("more" : Str)], .lst [.str ("falls" : Str), .str ("grows" : Str), .str ("same" : Str), .str ("falls" : Str)], .lst [.str ("falls" : Str), .str ("grows" : Str), .str ("once" : Str), .str ("same" : Str), .str ("more" : Str)], .lst [.str ("falls" : Str), .str ("same" : Str), .str ("once" : Str), .str ("falls" : Str)], .lst [.str ("falls" : Str), .str ("grows" : Str), .str ("once" : Str), .str ("same" : Str), .str ("more" : Str)], .lst [.str ("falls" : Str), .str ("same" : Str), .str ("grows" : Str), .str ("falls" : Str)], .lst [.str ("falls" : Str), .str ("grows" : Str), .str ("once" : Str), .str ("same" : Str), .str ("more" : Str)], .lst [.str ("grows" : Str), .str ("once" : Str), .str ("falls" : Str), .str ("falls" : Str)], .lst [.str ("falls" : Str), .str ("grows" : Str), .str ("once" : Str), .str ("same" : Str), .str ("more" : Str)], .lst [.str ("grows" : Str), .str ("once" : Str), .str ("same" : Str), .str ("falls" : Str)], .lst [.str ("grows" : Str), .str ("once" : Str), .str ("same" : Str), .str ("more" : Str)], .lst [.str ("grows" : Str), .str ("falls" : Str), .str ("once" : Str), .str ("falls" : Str)], .lst [.str ("falls" : Str), .str ("grows" : Str), .str ("once" : Str), .str ("same" : Str), .str ("more" : Str)], .lst [.str ("grows" : Str), .str ("falls" : Str), .str ("same" : Str), .str ("falls" : Str)], .lst [.str ("falls" : Str), .str ("grows" : Str), .str ("once" : Str), .str ("same" : Str), .str ("more" : Str)], .lst [.str ("grows" : Str), .str ("same" : Str), .str ("once" : Str), .str ("falls" : Str)], .lst [.str ("grows" : Str), .str ("once" : Str), .str ("same" : Str), .str ("more" : Str)], .lst [.str ("grows" : Str), .str ("same" : Str), .str ("falls" : Str), .str ("falls" : Str)], .lst [.str ("falls" : Str), .str ("grows" : Str), .str ("once" : Str), .str ("same" : Str), .str ("more" : Str)], .lst [.str ("same" : Str), .str ("once" : Str), .str ("falls" : Str), .str ("falls" : Str)], .lst [.str ("falls" : Str), .str ("grows" : Str), .str ("once" : Str), .str ("same" : Str), .str ("more" : Str)], .lst [.str ("same" : Str), .str ("once" : Str), .str ("grows" : Str), .str ("falls" : Str)], .lst [.str ("grows" : Str), .str ("once" : Str), .str ("same" : Str), .str ("more" : Str)], .lst [.str ("same" : Str), .str ("falls" : Str), .str ("once" : Str), .str ("falls" : Str)], .lst [.str ("falls" : Str), .str ("grows" : Str), .str ("once" : Str), .str ("same" : Str), .str ("more" : Str)], .lst [.str ("same" : Str), .str ("falls" : Str), .str ("grows" : Str), .str ("falls" : Str)], .lst [.str ("falls" : Str), .str ("grows" : Str), .str ("once" : Str), .str ("same" : Str), .str ("more" : Str)], .lst [.str ("same" : Str), .str ("grows" : Str), .str ("once" : Str), .str ("falls" : Str)], .lst [.str ("grows" : Str), .str ("once" : Str), .str ("same" : Str), .str ("more" : Str)], .lst [.str ("same" : Str), .str ("grows" : Str), .str ("falls" : Str), .str ("falls" : Str)], .lst [.str ("falls" : Str), .str ("grows" : Str), .str ("once" : Str), .str ("same" : Str), .str ("more" : Str)], .lst [.str ("once" : Str), .str ("falls" : Str), .str ("grows" : Str), .str ("same" : Str), .str ("falls" : Str)], .lst [.str ("falls" : Str), .str ("grows" : Str), .str ("once" : Str), .str ("same" : Str), .str ("more" : Str)], .lst [.str ("once" : Str), .str ("falls" : Str), .str ("same" : Str), .str ("grows" : Str), .str ("falls" : Str)], .lst [.str ("falls" : Str), .str ("grows" : Str), .str ("once" : Str), .str ("same" : Str), .str ("more" : Str)], .lst [.str ("once" : Str), .str ("grows" : Str), .str ("falls" : Str), .str ("same" : Str), .str ("falls" : Str)], .lst [.str ("falls" : Str), .str ("grows" : Str), .str ("once" : Str), .str ("same" : Str), .str ("more" : Str)], .lst [.str ("once" : Str), .str ("grows" : Str), .str ("same" : Str), .str ("falls" : Str), .str ("falls" : Str)], .lst [.str ("falls" : Str), .str ("grows" : Str), .str ("once" : Str), .str ("same" : Str), .str ("more" : Str)], .lst [.str ("once" : Str), .str ("same" : Str), .str ("falls" : Str), .str ("grows" : Str), .str ("falls" : Str)], .lst [.str ("falls" : Str), .str ("grows" : Str), .str ("once" : Str), .str ("same" : Str), .str ("more" : Str)], .lst [.str ("once" : Str), .str ("same" : Str), .str ("grows" : Str), .str ("falls" : Str), .str ("falls" : Str)], .lst [.str ("falls" : Str), .str ("grows" : Str), .str ("once" : Str), .str ("same" : Str), .str ("more" : Str)], .lst [.str ("falls" : Str), .str ("once" : Str), .str ("grows" : Str), .str ("same" : Str), .str ("falls" : Str)], .lst [.str ("falls" : Str), .str ("grows" : Str), .str ("once" : Str), .str ("same" : Str), .str ("more" : Str)]]
theorem ck11 (ns : List Int) (a b c : Int) : stepsL fB oc11 (.val (.scr ns) :: ex11) (.lst [.int a, .int b, .int c] :: mx11) = some (.val (.scr ns) :: ex12, .lst [.int a, .int b, .int c] :: mx12) := by kernel_rfl
def oc12 : List W := [.lst [.str ("falls" : Str), .str ("once" : Str), .str ("same" : Str), .str ("grows" : Str)], .lst [.str ("falls" : Str), .str ("grows" : Str), .str ("once" : Str), .str ("same" : Str)], .lst [.str ("falls" : Str), .str ("grows" : Str), .str ("same" : Str), .str ("once" : Str)], .lst [.str ("falls" : Str), .str ("same" : Str), .str ("once" : Str), .str ("grows" : Str)]]
def ex13 : En := [.val (.cell 0), .val (.lst [.lst [], .lst [.str ("once" : Str)], .lst [.str ("falls" : Str), .str ("once" : Str)], .lst [.str ("grows" : Str)], .lst [.str ("grows" : Str), .str ("once" : Str)], .lst [.str ("grows" : Str), .str ("once" : Str), .str ("same" : Str)], .lst [.str ("falls" : Str), .str ("grows" : Str), .str ("once" : Str), .str ("same" : Str)]]), .val (.lst [.str ("falls" : Str), .str ("same" : Str), .str ("once" : Str), .str ("grows" : Str)]), .val (.lst [.str ("falls" : Str), .str ("grows" : Str), .str ("once" : Str), .str ("same" : Str)]), .val (.cell 100), .val (.ins 9 [.tup [.str ("falls" : Str), .str ("grows" : Str), .str ("once" : Str), .str ("same" : Str)]]), .no, .no]
def mx13 : Mem := [.lst [.str ("falls" : Str)], .lst [.str ("more" : Str)], .lst [.str ("once" : Str), .str ("falls" : Str)], .lst [.str ("once" : Str), .str ("more" : Str)], .lst [.str ("falls" : Str), .str ("falls" : Str)], .lst [.str ("falls" : Str), .str ("once" : Str), .str ("more" : Str)], .lst [.str ("grows" : Str), .str ("falls" : Str)], .lst [.str ("grows" : Str), .str ("more" : Str)], .lst [.str ("same" : Str)], .lst [.str ("once" : Str), .str ("falls" : Str), .str ("falls" : Str)], .lst [.str ("falls" : Str), .str ("once" : Str), .str ("more" : Str)], .lst [.str ("once" : Str), .str ("grows" : Str), .str ("falls" : Str)], .lst [.str ("grows" : Str), .str ("once" : Str), .str ("more" : Str)], .lst [.str ("once" : Str), .str ("same" : Str), .str ("falls" : Str)], .lst [.str ("grows" : Str), .str ("once" : Str), .str ("same" : Str), .str ("more" : Str)], .lst [.str ("falls" : Str), .str ("once" : Str), .str ("falls" : Str)], .lst [.str ("falls" : Str), .str ("once" : Str), .str ("more" : Str)], .lst [.str ("falls" : Str), .str ("grows" : Str), .str ("falls" : Str)], .lst [.str ("falls" : Str), .str ("grows" : Str), .str ("once" : Str), .str ("same" : Str), .str ("more" : Str)], .lst [.str ("falls" : Str), .str ("same" : Str), .str ("falls" : Str)], .lst [.str ("falls" : Str), .str ("grows" : Str), .str ("once" : Str), .str ("same" : Str), .str ("more" : Str)], .lst [.str ("grows" : Str), .str ("once" : Str), .str ("falls" : Str)], .lst [.str ("grows" : Str), .str ("once" : Str), .str ("more" : Str)], .lst [.str ("grows" : Str), .str ("falls" : Str), .str ("falls" : Str)], .lst [.str ("falls" : Str), .str ("grows" : Str), .str ("once" : Str), .str ("same" : Str), .str ("more" : Str)], .lst [.str ("grows" : Str), .str ("same" : Str)], .lst [.str ("same" : Str), .str ("once" : Str), .str ("falls" : Str)], .lst [.str ("grows" : Str), .str ("once" : Str), .str ("same" : Str), .str ("more" : Str)], .lst [.str ("same" : Str), .str ("falls" : Str), .str ("falls" : Str)], .lst [.str ("falls" : Str), .str ("grows" : Str), .str ("once" : Str), .str ("same" : Str), .str ("more" : Str)], .lst [.str ("same" : Str), .str ("grows" : Str)], .lst [.str ("once" : Str), .str ("falls" : Str), .str ("grows" : Str), .str ("falls" : Str)], .lst [.str ("falls" : Str), .str ("grows" : Str), .str ("once" : Str), .str ("same" : Str), .str ("more" : Str)], .lst [.str ("once" : Str), .str ("falls" : Str), .str ("same" : Str), .str ("falls" : Str)], .lst [.str ("falls" : Str), .str ("grows" : Str), .str ("once" : Str), .str ("same" : Str), .str ("more" : Str)], .lst [.str ("once" : Str), .str ("grows" : Str), .str ("falls" : Str), .str ("falls" : Str)], .lst [.str ("falls" : Str), .str ("grows" : Str), .str ("once" : Str), .str ("same" : Str), .str ("more" : Str)], .lst [.str ("once" : Str), .str ("grows" : Str), .str ("same" : Str), .str ("falls" : Str)], .lst [.str ("grows" : Str), .str ("once" : Str), .str ("same" : Str), .str ("more" : Str)], .lst [.str ("once" : Str), .str ("same" : Str), .str ("falls" : Str), .str ("falls" : Str)], .lst [.str ("falls" : Str), .str ("grows" : Str), .str ("once" : Str), .str ("same" : Str), .str ("more" : Str)], .lst [.str ("once" : Str), .str ("same" : Str), .str ("grows" : Str), .str ("falls" : Str)], .lst [.str ("grows" : Str), .str ("once" : Str), .str ("same" : Str), .str ("more" : Str)], .lst [.str ("falls" : Str), .str ("once" : Str), .str ("grows" : Str), .str ("falls" : Str)], .lst [.str ("falls" : Str), .str ("grows" : Str), .str ("once" : Str), .str ("same" : Str), .str ("more" : Str)], .lst [.str ("falls" : Str), .str ("once" : Str), .str ("same" : Str), .str ("falls" : Str)], .lst [.str ("falls" : Str), .str ("grows" : Str), .str ("once" : Str), .str ("same" : Str), .str ("more" : Str)], .lst [.str ("falls" : Str), .str ("grows" : Str), .str ("once" : Str), .str ("falls" : Str)], .lst [.str ("falls" : Str), .str ("grows" : Str), .str ("once" : Str), .str ("same" : Str), .str ("more" : Str)], .lst [.str ("falls" : Str), .str ("grows" : Str), .str ("same" : Str), .str ("falls" : Str)], .lst [.str ("falls" : Str), .str ("grows" : Str), .str ("once" : Str), .str ("same" : Str), .str ("more" : Str)], .lst [.str ("falls" : Str), .str ("same" : Str), .str ("once" : Str), .str ("falls" : Str)], .lst [.str ("falls" : Str), .str ("grows" : Str), .str ("once" : Str), .str ("same" : Str), .str ("more" : Str)], .lst [.str ("falls" : Str), .str ("same" : Str), .str ("grows" : Str), .str ("falls" : Str)], .lst [.str ("falls" : Str), .str ("grows" : Str), .str ("once" : Str), .str ("same" : Str), .str ("more" : Str)], .lst [.str ("grows" : Str), .str ("once" : Str), .str ("falls" : Str), .str ("falls" : Str)], .lst [.str ("falls" : Str), .str ("grows" : Str), .str ("once" : Str), .str ("same" : Str), .str ("more" : Str)], .lst [.str ("grows" : Str), .str ("once" : Str), .str ("same" : Str), .str ("falls" : Str)], .lst [.str ("grows" : Str), .str ("once" : Str), .str ("same" : Str), .str ("more" : Str)], .lst [.str ("grows" : Str), .str ("falls" : Str), .str ("once" : Str), .str ("falls" : Str)], .lst [.str ("falls" : Str), .str ("grows" : Str), .str ("once" : Str), .str ("same" : Str), .str ("more" : Str)], .lst [.str ("grows" : Str), .str ("falls" : Str), .str ("same" : Str), .str ("falls" : Str)], .lst [.str ("falls" : Str), .str ("grows" : Str), .str ("once" : Str), .str ("same" : Str), .str ("more" : Str)], .lst [.str ("grows" : Str), .str ("same" : Str), .str ("once" : Str), .str ("falls" : Str)], .lst [.str ("grows" : Str), .str ("once" : Str), .str ("same" : Str), .str ("more" : Str)], .lst [.str ("grows" : Str), .str ("same" : Str), .str ("falls" : Str), .str ("falls" : Str)], .lst [.str ("falls" : Str), .str ("grows" : Str), .str ("once" : Str), .str ("same" : Str), .str ("more" : Str)], .lst [.str ("same" : Str), .str ("once" : Str), .str ("falls" : Str), .str ("falls" : Str)], .lst [.str ("falls" : Str), .str ("grows" : Str), .str ("once" : Str), .str ("same" : Str), .str ("more" : Str)], .lst [.str ("same" : Str), .str ("once" : Str), .str ("grows" : Str), .str ("falls" : Str)], .lst [.str ("grows" : Str), .str ("once" : Str), .str ("same" : Str), .str ("more" : Str)], .lst [.str ("same" : Str), .str ("falls" : Str), .str ("once" : Str), .str ("falls" : Str)], .lst [.str ("falls" : Str), .str ("grows" : Str), .str ("once" : Str), .str ("same" : Str), .str ("more" : Str)], .lst [.str ("same" : Str), .str ("falls" : Str), .str ("grows" : Str), .str ("falls" : Str)], .lst [.str ("falls" : Str), .str ("grows" : Str), .str ("once" : Str), .str ("same" : Str), .str ("more" : Str)], .lst [.str ("same" : Str), .str ("grows" : Str), .str ("once" : Str), .str ("falls" : Str)], .lst [.str ("grows" : Str), .str ("once" : Str), .str ("same" : Str), .str ("more" : Str)], .lst [.str ("same" : Str), .str ("grows" : Str), .str ("falls" : Str), .str ("falls" : Str)], .lst [.str ("falls" : Str), .str ("grows" : Str), .str ("once" : Str), .str ("same" : Str), .str ("more" : Str)], .lst [.str ("once" : Str), .str ("falls" : Str), .str ("grows" : Str), .str ("same" : Str), .str ("falls" : Str)], .lst [.str ("falls" : Str), .str ("grows" : Str), .str ("once" : Str), .str ("same" : Str), .str ("more" : Str)], .lst [.str ("once" : Str), .str ("falls" : Str), .str ("same" : Str), .str ("grows" : Str), .str ("falls" : Str)], .lst [.str ("falls" : Str), .str ("grows" : Str), .str ("once" : Str), .str ("same" : Str), .str ("more" : Str)], .lst [.str ("once" : Str), .str ("grows" : Str), .str ("falls" : Str), .str ("same" : Str), .str ("falls" : Str)], .lst [.str ("falls" : Str), .str ("grows" : Str), .str ("once" : Str), .str ("same" : Str), .str ("more" : Str)], .lst [.str ("once" : Str), .str ("grows" : Str), .str ("same" : Str), .str ("falls" : Str), .str ("falls" : Str)], .lst [.str ("falls" : Str), .str ("grows" : Str), .str ("once" : Str), .str ("same" : Str), .str ("more" : Str)], .lst [.str ("once" : Str), .str ("same" : Str), .str ("falls" : Str), .str ("grows" : Str), .str ("falls" : Str)], .lst [.str ("falls" : Str), .str ("grows" : Str), .str ("once" : Str), .str ("same" : Str), .str ("more" : Str)], .lst [.str ("once" : Str), .str ("same" : Str), .str ("grows" : Str), .str ("falls" : Str), .str ("falls" : Str)], .lst [.str ("falls" : Str), .str ("grows" : Str), .str ("once" : Str), .str ("same" : Str), .str ("more" : Str)], .lst [.str ("falls" : Str), .str ("once" : Str), .str ("grows" : Str), .str ("same" : Str), .str ("falls" : Str)], .lst [.str ("falls" : Str), .str ("grows" : Str), .str ("once" : Str), .str ("same" : Str), .str ("more" : Str)], .lst [.str ("falls" : Str), .str ("once" : Str), .str ("same" : Str), .str ("grows" : Str), .str ("falls" : Str)], .lst [.str ("falls" : Str), .str ("grows" : Str), .str ("once" : Str), .str ("same" : Str), .str ("more" : Str)], .lst [.str ("falls" : Str), .str ("grows" : Str), .str ("once" : Str), .str ("same" : Str), .str ("falls" : Str)], .lst [.str ("falls" : Str), .str ("grows" : Str), .str ("once" : Str), .str ("same" : Str), .str ("more" : Str)], .lst [.str ("falls" : Str), .str ("grows" : Str), .str ("same" : Str), .str ("once" : Str), .str ("falls" : Str)], .lst [.str ("falls" : Str), .str ("grows" : Str), .str ("once" : Str), .str ("same" : Str), .str ("more" : Str)], .lst [.str ("falls" : Str), .str ("same" : Str), .str ("once" : Str), .str ("grows" : Str), .str ("falls" : Str)], .lst [.str ("falls" : Str), .str ("grows" : Str), .str ("once" : Str), .str ("same" : Str), .str ("more" : Str)]]
theorem ck12 (ns : List Int) (a b c : Int) : stepsL fB oc12 (.val (.scr ns) :: ex12) (.lst [.int a, .int b, .int c] :: mx12) = some (.val (.scr ns) :: ex13, .lst [.int a, .int b, .int c] :: mx13) := by kernel_rfl
def oc13 : List W := [.lst [.str ("falls" : Str), .str ("same" : Str), .str ("grows" : Str), .str ("once" : Str)], .lst [.str ("grows" : Str), .str ("once" : Str), .str ("falls" : Str), .str ("same" : Str)], .lst [.str ("grows" : Str), .str ("once" : Str), .str ("same" : Str), .str ("falls" : Str)], .lst [.str ("grows" : Str), .str ("falls" : Str), .str ("once" : Str), .str ("same" : Str)]]
def ex14 : En := [.val (.cell 0), .val (.lst [.lst [], .lst [.str ("once" : Str)], .lst [.str ("falls" : Str), .str ("once" : Str)], .lst [.str ("grows" : Str)], .lst [.str ("grows" : Str), .str ("once" : Str)], .lst [.str ("grows" : Str), .str ("once" : Str), .str ("same" : Str)], .lst [.str ("falls" : Str), .str ("grows" : Str), .str ("once" : Str), .str ("same" : Str)]]), .val (.lst [.str ("grows" : Str), .str ("falls" : Str), .str ("once" : Str), .str ("same" : Str)]), .val (.lst [.str ("falls" : Str), .str ("grows" : Str), .str ("once" : Str), .str ("same" : Str)]), .val (.cell 108), .val (.ins 9 [.tup [.str ("falls" : Str), .str ("grows" : Str), .str ("once" : Str), .str ("same" : Str)]]), .no, .no]
def mx14 : Mem := [.lst [.str ("falls" : Str)], .lst [.str ("more" : Str)], .lst [.str ("once" : Str), .str ("falls" : Str)], .lst [.str ("once" : Str), .str ("more" : Str)], .lst [.str ("falls" : Str), .str ("falls" : Str)], .lst [.str ("falls" : Str), .str ("once" : Str), .str ("more" : Str)], .lst [.str ("grows" : Str), .str ("falls" : Str)], .lst [.str ("grows" : Str), .str ("more" : Str)], .lst [.str ("same" : Str)], .lst [.str ("once" : Str), .str ("falls" : Str), .str ("falls" : Str)], .lst [.str ("falls" : Str), .str ("once" : Str), .str ("more" : Str)], .lst [.str ("once" : Str), .str ("grows" : Str), .str ("falls" : Str)], .lst [.str ("grows" : Str), .str ("once" : Str), .str ("more" : Str)], .lst [.str ("once" : Str), .str ("same" : Str), .str ("falls" : Str)], .lst [.str ("grows" : Str), .str ("once" : Str), .str ("same" : Str), .str ("more" : Str)], .lst [.str ("falls" : Str), .str ("once" : Str), .str ("falls" : Str)], .lst [.str ("falls" : Str), .str ("once" : Str), .str ("more" : Str)], .lst [.str ("falls" : Str), .str ("grows" : Str), .str ("falls" : Str)], .lst [.str ("falls" : Str), .str ("grows" : Str), .str ("once" : Str), .str ("same" : Str), .str ("more" : Str)], .lst [.str ("falls" : Str), .str ("same" : Str), .str ("falls" : Str)], .lst [.str ("falls" : Str), .str ("grows" : Str), .str ("once" : Str), .str ("same" : Str), .str ("more" : Str)], .lst [.str ("grows" : Str), .str ("once" : Str), .str ("falls" : Str)], .lst [.str ("grows" : Str), .str ("once" : Str), .str ("more" : Str)], .lst [.str ("grows" : Str), .str ("falls" : Str), .str ("falls" : Str)], .lst [.str ("falls" : Str), .str ("grows" : Str), .str ("once" : Str), .str ("same" : Str), .str ("more" : Str)], .lst [.str ("grows" : Str), .str ("same" : Str)], .lst [.str ("same" : Str), .str ("once" : Str), .str ("falls" : Str)], .lst [.str ("grows" : Str), .str ("once" : Str), .str ("same" : Str), .str ("more" : Str)], .lst [.str ("same" : Str), .str ("falls" : Str), .str ("falls" : Str)], .lst [.str ("falls" : Str), .str ("grows" : Str), .str ("once" : Str), .str ("same" : Str), .str ("more" : Str)], .lst [.str ("same" : Str), .str ("grows" : Str)], .lst [.str ("once" : Str), .str ("falls" : Str), .str ("grows" : Str), .str ("falls" : Str)], .lst [.str ("falls" : Str), .str ("grows" : Str), .str ("once" : Str), .str ("same" : Str), .str ("more" : Str)], .lst [.str ("once" : Str), .str ("falls" : Str), .str ("same" : Str), .str ("falls" : Str)], .lst [.str ("falls" : Str), .str ("grows" : Str), .str ("once" : Str), .str ("same" : Str), .str ("more" : Str)], .lst [.str ("once" : Str), .str ("grows" : Str), .str ("falls" : Str), .str ("falls" : Str)], .lst [.str ("falls" : Str), .str ("grows" : Str), .str ("once" : Str), .str ("same" : Str), .str ("more" : Str)], .lst [.str ("once" : Str), .str ("grows" : Str), .str ("same" : Str), .str ("falls" : Str)], .lst [.str ("grows" : Str), .str ("once" : Str), .str ("same" : Str), .str ("more" : Str)], .lst [.str ("once" : Str), .str ("same" : Str), .str ("falls" : Str), .str ("falls" : Str)], .lst [.str ("falls" : Str), .str ("grows" : Str), .str ("once" : Str), .str ("same" : Str), .str ("more" : Str)], .lst [.str ("once" : Str), .str ("same" : Str), .str ("grows" : Str), .str ("falls" : Str)], .lst [.str ("grows" : Str), .str ("once" : Str), .str ("same" : Str), .str ("more" : Str)], .lst [.str ("falls" : Str), .str ("once" : Str), .str ("grows" : Str), .str ("falls" : Str)], .lst [.str ("falls" : Str), .str ("grows" : Str), .str ("once" : Str), .str ("same" : Str), .str ("more" : Str)], .lst [.str ("falls" : Str), .str ("once" : Str), .str ("same" : Str), .str ("falls" : Str)], .lst [.str ("falls" : Str), .str ("grows" : Str), .str ("once" : Str), .str ("same" : Str), .str ("more" : Str)], .lst [.str ("falls" : Str), .str ("grows" : Str), .str ("once" : Str), .str ("falls" : Str)], .lst [.str ("falls" : Str), .str ("grows" : Str), .str ("once" : Str), .str ("same" : Str), .str ("more" : Str)], .lst [.str ("falls" : Str), .str ("grows" : Str), .str ("same" : Str), .str ("falls" : Str)], .lst [.str ("falls" : Str), .str ("grows" : Str), .str ("once" : Str), .str ("same" : Str), .str ("more" : Str)], .lst [.str ("falls" : Str), .str ("same" : Str), .str ("once" : Str), .str ("falls" : Str)], .lst [.str ("falls" : Str), .str ("grows" : Str), .str ("once" : Str), .str ("same" : Str), .str ("more" : Str)], .lst [.str ("falls" : Str), .str ("same" : Str), .str ("grows" : Str), .str ("falls" : Str)], .lst [.str ("falls" : Str), .str ("grows" : Str), .str ("once" : Str), .str ("same" : Str), .str ("more" : Str)], .lst [.str ("grows" : Str), .str ("once" : Str), .str ("falls" : Str), .str ("falls" : Str)], .lst [.str ("falls" : Str), .str ("grows" : Str), .str ("once" : Str), .str ("same" : Str), .str ("more" : Str)], .lst [.str ("grows" : Str), .str ("once" : Str), .str ("same" : Str), .str ("falls" : Str)], .lst [.str ("grows" : Str), .str ("once" : Str), .str ("same" : Str), .str ("more" : Str)], .lst [.str ("grows" : Str), .str ("falls" : Str), .str ("once" : Str), .str ("falls" : Str)], .lst [.str ("falls" : Str), .str ("grows" : Str), .str ("once" : Str), .str ("same" : Str), .str ("more" : Str)], .lst [.str ("grows" : Str), .str ("falls" : Str), .str ("same" : Str), .str ("falls" : Str)], .lst [.str ("falls" : Str), .str ("grows" : Str), .str ("once" : Str), .str ("same" : Str), .str ("more" : Str)], .lst [.str ("grows" : Str), .str ("same" : Str), .str ("once" : Str), .str ("falls" : Str)], .lst [.str ("grows" : Str), .str ("once" : Str), .str ("same" : Str), .str ("more" : Str)], .lst [.str ("grows" : Str), .str ("same" : Str), .str ("falls" : Str), .str ("falls" : Str)], .lst [.str ("falls" : Str), .str ("grows" : Str), .str ("once" : Str), .str ("same" : Str), .str ("more" : Str)], .lst [.str ("same" : Str), .str ("once" : Str), .str ("falls" : Str), .str ("falls" : Str)], .lst [.str ("falls" : Str), .str ("grows" : Str), .str ("once" : Str), .str ("same" : Str), .str ("more" : Str)], .lst [.str ("same" : Str), .str ("once" : Str), .str ("grows" : Str), .str ("falls" : Str)], .lst [.str ("grows" : Str), .str ("once" : Str), .str ("same" : Str), .str ("more" : Str)], .lst [.str ("same" : Str), .str ("falls" : Str), .str ("once" : Str), .str ("falls" : Str)], .lst [.str ("falls" : Str), .str ("grows" : Str), .str ("once" : Str), .str ("same" : Str), .str ("more" : Str)], .lst [.str ("same" : Str), .str ("falls" : Str), .str ("grows" : Str), .str ("falls" : Str)], .lst [.str ("falls" : Str), .str ("grows" : Str), .str ("once" : Str), .str ("same" : Str), .str ("more" : Str)], .lst [.str ("same" : Str), .str ("grows" : Str), .str ("once" : Str), .str ("falls" : Str)], .lst [.str ("grows" : Str), .str ("once" : Str), .str ("same" : Str), .str ("more" : Str)], .lst [.str ("same" : Str), .str ("grows" : Str), .str ("falls" : Str), .str ("falls" : Str)], .lst [.str ("falls" : Str), .str ("grows" : Str), .str ("once" : Str), .str ("same" : Str), .str ("more" : Str)], .lst [.str ("once" : Str), .str ("falls" : Str), .str ("grows" : Str), .str ("same" : Str), .str ("falls" : Str)], .lst [.str ("falls" : Str), .str ("grows" : Str), .str ("once" : Str), .str ("same" : Str), .str ("more" : Str)], .lst [.str ("once" : Str), .str ("falls" : Str), .str ("same" : Str), .str ("grows" : Str), .str ("falls" : Str)], .lst [.str ("falls" : Str), .str ("grows" : Str), .str ("once" : Str), .str ("same" : Str), .str ("more" : Str)], .lst [.str ("once" : Str), .str ("grows" : Str), .str ("falls" : Str), .str ("same" : Str), .str ("falls" : Str)], .lst [.str ("falls" : Str), .str ("grows" : Str), .str ("once" : Str), .str ("same" : Str), .str ("more" : Str)], .lst [.str ("once" : Str), .str ("grows" : Str), .str ("same" : Str), .str ("falls" : Str), .str ("falls" : Str)], .lst [.str ("falls" : Str), .str ("grows" : Str), .str ("once" : Str), .str ("same" : Str), .str ("more" : Str)], .lst [.str ("once" : Str), .str ("same" : Str), .str ("falls" : Str), .str ("grows" : Str), .str ("falls" : Str)], .lst [.str ("falls" : Str), .str ("grows" : Str), .str ("once" : Str), .str ("same" : Str), .str ("more" : Str)], .lst [.str ("once" : Str), .str ("same" : Str), .str ("grows" : Str), .str ("falls" : Str), .str ("falls" : Str)], .lst [.str ("falls" : Str), .str ("grows" : Str), .str ("once" : Str), .str ("same" : Str), .str ("more" : Str)], .lst [.str ("falls" : Str), .str ("once" : Str), .str ("grows" : Str), .str ("same" : Str), .str ("falls" : Str)], .lst [.str ("falls" : Str), .str ("grows" : Str), .str ("once" : Str), .str ("same" : Str), .str ("more" : Str)], .lst [.str ("falls" : Str), .str ("once" : Str), .str ("same" : Str), .str ("grows" : Str), .str ("falls" : Str)], .lst [.str ("falls" : Str), .str ("grows" : Str), .str ("once" : Str), .str ("same" : Str), .str ("more" : Str)], .lst [.str ("falls" : Str), .str ("grows" : Str), .str ("once" : Str), .str ("same" : Str), .str ("falls" : Str)], .lst [.str ("falls" : Str), .str ("grows" : Str), .str ("once" : Str), .str ("same" : Str), .str ("more" : Str)], .lst [.str ("falls" : Str), .str ("grows" : Str), .str ("same" : Str), .str ("once" : Str), .str ("falls" : Str)], .lst [.str ("falls" : Str), .str ("grows" : Str), .str ("once" : Str), .str ("same" : Str), .str ("more" : Str)], .lst [.str ("falls" : Str), .str ("same" : Str), .str ("once" : Str), .str ("grows" : Str), .str ("falls" : Str)], .lst [.str ("falls" : Str), .str ("grows" : Str), .str ("once" : Str), .str ("same" : Str), .str ("more" : Str)], .lst [.str ("falls" : Str), .str ("same" : Str), .str ("grows" : Str), .str ("once" : Str), .str ("falls" : Str)], .lst [.str ("falls" : Str), .str ("grows" : Str), .str ("once" : Str), .str ("same" : Str), .str ("more" : Str)], .lst [.str ("grows" : Str), .str ("once" : Str), .str ("falls" : Str), .str ("same" : Str), .str ("falls" : Str)], .lst [.str ("falls" : Str), .str ("grows" : Str), .str ("once" : Str), .str ("same" : Str), .str ("more" : Str)], .lst [.str ("grows" : Str), .str ("once" : Str), .str ("same" : Str), .str ("falls" : Str), .str ("falls" : Str)], .lst [.str ("falls" : Str), .str ("grows" : Str), .str ("once" : Str), .str ("same" : Str), .str ("more" : Str)], .lst [.str ("grows" : Str), .str ("falls" : Str), .str ("once" : Str), .str ("same" : Str), .str ("falls" : Str)], .lst [.str ("falls" : Str), .str ("grows" : Str), .str ("once" : Str), .str ("same" : Str), .str ("more" : Str)]]
theorem ck13 (ns : List Int) (a b c : Int) : stepsL fB oc13 (.val (.scr ns) :: ex13) (.lst [.int a, .int b, .int c] :: mx13) = some (.val (.scr ns) :: ex14, .lst [.int a, .int b, .int c] :: mx14) := by kernel_rfl
def oc14 : List W := [.lst [.str ("grows" : Str), .str ("falls" : Str), .str ("same" : Str), .str ("once" : Str)], .lst [.str ("grows" : Str), .str ("same" : Str), .str ("once" : Str), .str ("falls" : Str)], .lst [.str ("grows" : Str), .str ("same" : Str), .str ("falls" : Str), .str ("once" : Str)], .lst [.str ("same" : Str), .str ("once" : Str), .str ("falls" : Str), .str ("grows" : Str)]]
def ex15 : En := [.val (.cell 0), .val (.lst [.lst [], .lst [.str ("once" : Str)], .lst [.str ("falls" : Str), .str ("once" : Str)], .lst [.str ("grows" : Str)], .lst [.str ("grows" : Str), .str ("once" : Str)], .lst [.str ("grows" : Str), .str ("once" : Str), .str ("same" : Str)], .lst [.str ("falls" : Str), .str ("grows" : Str), .str ("once" : Str), .str ("same" : Str)]]), .val (.lst [.str ("same" : Str), .str ("once" : Str), .str ("falls" : Str), .str ("grows" : Str)]), .val (.lst [.str ("falls" : Str), .str ("grows" : Str), .str ("once" : Str), .str ("same" : Str)]), .val (.cell 116), .val (.ins 9 [.tup [.str ("falls" : Str), .str ("grows" : Str), .str ("once" : Str), .str ("same" : Str)]]), .no, .no]
def mx15 : Mem := [.lst [.str ("falls" : Str)], .lst [.str ("more" : Str)], .lst [.str ("once" : Str), .str ("falls" : Str)], .lst [.str ("once" : Str), .str ("more" : Str)], .lst [.str ("falls" : Str), .str ("falls" : Str)], .lst [.str ("falls" : Str), .str ("once" : Str), .str ("more" : Str)], .lst [.str ("grows" : Str), .str ("falls" : Str)], .lst [.str ("grows" : Str), .str ("more" : Str)], .lst [.str ("same" : Str)], .lst [.str ("once" : Str), .str ("falls" : Str), .str ("falls" : Str)], .lst [.str ("falls" : Str), .str ("once" : Str), .str ("more" : Str)], .lst [.str ("once" : Str), .str ("grows" : Str), .str ("falls" : Str)], .lst [.str ("grows" : Str), .str ("once" : Str), .str ("more" : Str)], .lst [.str ("once" : Str), .str ("same" : Str), .str ("falls" : Str)], .lst [.str ("grows" : Str), .str ("once" : Str), .str ("same" : Str), .str ("more" : Str)], .lst [.str ("falls" : Str), .str ("once" : Str), .str ("falls" : Str)], .lst [.str ("falls" : Str), .str ("once" : Str), .str ("more" : Str)], .lst [.str ("falls" : Str), .str ("grows" : Str), .str ("falls" : Str)], .lst [.str ("falls" : Str), .str ("grows" : Str), .str ("once" : Str), .str ("same" : Str), .str ("more" : Str)], .lst [.str ("falls" : Str), .str ("same" : Str), .str ("falls" : Str)], .lst [.str ("falls" : Str), .str ("grows" : Str), .str ("once" : Str), .str ("same" : Str), .str ("more" : Str)], .lst [.str ("grows" : Str), .str ("once" : Str), .str ("falls" : Str)], .lst [.str ("grows" : Str), .str ("once" : Str), .str ("more" : Str)], .lst [.str ("grows" : Str), .str ("falls" : Str), .str ("falls" : Str)], .lst [.str ("falls" : Str), .str ("grows" : Str), .str ("once" : Str), .str ("same" : Str), .str ("more" : Str)], .lst [.str ("grows" : Str), .str ("same" : Str)], .lst [.str ("same" : Str), .str ("once" : Str), .str ("falls" : Str)], .lst [.str ("grows" : Str), .str ("once" : Str), .str ("same" : Str), .str ("more" : Str)], .lst [.str ("same" : Str), .str ("falls" : Str), .str ("falls" : Str)], .lst [.str ("falls" : Str), .str ("grows" : Str), .str ("once" : Str), .str ("same" : Str), .str ("more" : Str)], .lst [.str ("same" : Str), .str ("grows" : Str)], .lst [.str ("once" : Str), .str ("falls" : Str), .str ("grows" : Str), .str ("falls" : Str)], .lst [.str ("falls" : Str), .str ("grows" : Str), .str ("once" : Str), .str ("same" : Str), .str ("more" : Str)], .lst [.str ("once" : Str), .str ("falls" : Str), .str ("same" : Str), .str ("falls" : Str)], .lst [.str ("falls" : Str), .str ("grows" : Str), .str ("once" : Str), .str ("same" : Str), .str ("more" : Str)], .lst [.str ("once" : Str), .str ("grows" : Str), .str ("falls" : Str), .str ("falls" : Str)], .lst [.str ("falls" : Str), .str ("grows" : Str), .str ("once" : Str), .str ("same" : Str), .str ("more" : Str)], .lst [.str ("once" : Str), .str ("grows" : Str), .str ("same" : Str), .str ("falls" : Str)], .lst [.str ("grows" : Str), .str ("once" : Str), .str ("same" : Str), .str ("more" : Str)], .lst [.str ("once" : Str), .str ("same" : Str), .str ("falls" : Str), .str ("falls" : Str)], .lst [.str ("falls" : Str), .str ("grows" : Str), .str ("once" : Str), .str ("same" : Str), .str ("more" : Str)], .lst [.str ("once" : Str), .str ("same" : Str), .str ("grows" : Str), .str ("falls" : Str)], .lst [.str ("grows" : Str), .str ("once" : Str), .str ("same" : Str), .str ("more" : Str)], .lst [.str ("falls" : Str), .str ("once" : Str), .str ("grows" : Str), .str ("falls" : Str)], .lst [.str ("falls" : Str), .str ("grows" : Str), .str ("once" : Str), .str ("same" : Str), .str ("more" : Str)], .lst [.str ("falls" : Str), .str ("once" : Str), .str ("same" : Str), .str ("falls" : Str)], .lst [.str ("falls" : Str), .str ("grows" : Str), .str ("once" : Str), .str ("same" : Str), .str ("more" : Str)], .lst [.str ("falls" : Str), .str ("grows" : Str), .str ("once" : Str), .str ("falls" : Str)], .lst [.str ("falls" : Str), .str ("grows" : Str), .str ("once" : Str), .str ("same" : Str), .str ("more" : Str)], .lst [.str ("falls" : Str), .str ("grows" : Str), .str ("same" : Str), .str ("falls" : Str)], .lst [.str ("falls" : Str), .str ("grows" : Str), .str ("once" : Str), .str ("same" : Str), .str ("more" : Str)], .lst [.str ("falls" : Str), .str ("same" : Str), .str ("once" : Str), .str ("falls" : Str)], .lst [.str ("falls" : Str), .str ("grows" : Str), .str ("once" : Str), .str ("same" : Str), .str ("more" : Str)], .lst [.str ("falls" : Str), .str ("same" : Str), .str ("grows" : Str), .str ("falls" : Str)], .lst [.str ("falls" : Str), .str ("grows" : Str), .str ("once" : Str), .str ("same" : Str), .str ("more" : Str)], .lst [.str ("grows" : Str), .str ("once" : Str), .str ("falls" : Str), .str ("falls" : Str)], .lst [.str ("falls" : Str), .str ("grows" : Str), .str ("once" : Str), .str ("same" : Str), .str ("more" : Str)], .lst [.str ("grows" : Str), .str ("once" : Str), .str ("same" : Str), .str ("falls" : Str)], .lst [.str ("grows" : Str), .str ("once" : Str), .str ("same" : Str), .str ("more" : Str)], .lst [.str ("grows" : Str), .str ("falls" : Str), .str ("once" : Str), .str ("falls" : Str)], .lst [.str ("falls" : Str), .str ("grows" : Str), .str ("once" : Str), .str ("same" : Str), .str ("more" : Str)], .lst [.str ("grows" : Str), .str ("falls" : Str), .str ("same" : Str), .str ("falls" : Str)], .lst [.str ("falls" : Str), .str ("grows" : Str), .str ("once" : Str), .str ("same" : Str), .str ("more" : Str)], .lst [.str ("grows" : Str), .str ("same" : Str), .str ("once" : Str), .str ("falls" : Str)], .lst [.str ("grows" : Str), .str ("once" : Str), .str ("same" : Str), .str ("more" : Str)], .lst [.str ("grows" : Str), .str ("same" : Str), .str ("falls" : Str), .str ("falls" : Str)], .lst [.str ("falls" : Str), .str ("grows" : Str), .str ("once" : Str), .str ("same" : Str), .str ("more" : Str)], .lst [.str ("same" : Str), .str ("once" : Str), .str ("falls" : Str), .str ("falls" : Str)], .lst [.str ("falls" : Str), .str ("grows" : Str), .str ("once" : Str), .str ("same" : Str), .str ("more" : Str)], .lst [.str ("same" : Str), .str ("once" : Str), .str ("grows" : Str), .str ("falls" : Str)], .lst [.str ("grows" : Str), .str ("once" : Str), .str ("same" : Str), .str ("more" : Str)], .lst [.str ("same" : Str), .str ("falls" : Str), .str ("once" : Str), .str ("falls" : Str)], .lst [.str ("falls" : Str), .str ("grows" : Str), .str ("once" : Str), .str ("same" : Str), .str ("more" : Str)], .lst [.str ("same" : Str), .str ("falls" : Str), .str ("grows" : Str), .str ("falls" : Str)], .lst [.str ("falls" : Str), .str ("grows" : Str), .str ("once" : Str), .str ("same" : Str), .str ("more" : Str)], .lst [.str ("same" : Str), .str ("grows" : Str), .str ("once" : Str), .str ("falls" : Str)], .lst [.str ("grows" : Str), .str ("once" : Str), .str ("same" : Str), .str ("more" : Str)], .lst [.str ("same" : Str), .str ("grows" : Str), .str ("falls" : Str), .str ("falls" : Str)], .lst [.str ("falls" : Str), .str ("grows" : Str), .str ("once" : Str), .str ("same" : Str), .str ("more" : Str)], .lst [.str ("once" : Str), .str ("falls" : Str), .str ("grows" : Str), .str ("same" : Str), .str ("falls" : Str)], .lst [.str ("falls" : Str), .str ("grows" : Str), .str ("once" : Str), .str ("same" : Str), .str ("more" : Str)], .lst [.str ("once" : Str), .str ("falls" : Str), .str ("same" : Str), .str ("grows" : Str), .str ("falls" : Str)], .lst [.str ("falls" : Str), .str ("grows" : Str), .str ("once" : Str), .str ("same" : Str), .str ("more" : Str)], .lst [.str ("once" : Str), .str ("grows" : Str), .str ("falls" : Str), .str ("same" : Str), .str ("falls" : Str)], .lst [.str ("falls" : Str), .str ("grows" : Str), .str ("once" : Str), .str ("same" : Str), .str ("more" : Str)], .lst [.str ("once" : Str), .str ("grows" : Str), .str ("same" : Str), .str ("falls" : Str), .str ("falls" : Str)], .lst [.str ("falls" : Str), .str ("grows" : Str), .str ("once" : Str), .str ("same" : Str), .str ("more" : Str)], .lst [.str ("once" : Str), .str ("same" : Str), .str ("falls" : Str), .str ("grows" : Str), .str ("falls" : Str)], .lst [.str ("falls" : Str), .str ("grows" : Str), .str ("once" : Str), .str ("same" : Str), .str ("more" : Str)], .lst [.str ("once" : Str), .str ("same" : Str), .str ("grows" : Str), .str ("falls" : Str), .str ("falls" : Str)], .lst [.str ("falls" : Str), .str ("grows" : Str), .str ("once" : Str), .str ("same" : Str), .str ("more" : Str)], .lst [.str ("falls" : Str), .str ("once" : Str), .str ("grows" : Str), .str ("same" : Str), .str ("falls" : Str)], .lst [.str ("falls" : Str), .str ("grows" : Str), .str ("once" : Str), .str ("same" : Str), .str ("more" : Str)], .lst [.str ("falls" : Str), .str ("once" : Str), .str ("same" : Str), .str ("grows" : Str), .str ("falls" : Str)], .lst [.str ("falls" : Str), .str ("grows" : Str), .str ("once" : Str), .str ("same" : Str), .str ("more" : Str)], .lst [.str ("falls" : Str), .str ("grows" : Str), .str ("once" : Str), .str ("same" : Str), .str ("falls" : Str)], .lst [.str ("falls" : Str), .str ("grows" : Str), .str ("once" : Str), .str ("same" : Str), .str ("more" : Str)], .lst [.str ("falls" : Str), .str ("grows" : Str), .str ("same" : Str), .str ("once" : Str), .str ("falls" : Str)], .lst [.str ("falls" : Str), .str ("grows" : Str), .str ("once" : Str), .str ("same" : Str), .str ("more" : Str)], .lst [.str ("falls" : Str), .str ("same" : Str), .str ("once" : Str), .str ("grows" : Str), .str ("falls" : Str)], .lst [.str ("falls" : Str), .str ("grows" : Str), .str ("once" : Str), .str ("same" : Str), .str ("more" : Str)], .lst [.str ("falls" : Str), .str ("same" : Str), .str ("grows" : Str), .str ("once" : Str), .str ("falls" : Str)], .lst [.str ("falls" : Str), .str ("grows" : Str), .str ("once" : Str), .str ("same" : Str), .str ("more" : Str)], .lst [.str ("grows" : Str), .str ("once" : Str), .str ("falls" : Str), .str ("same" : Str), .str ("falls" : Str)], .lst [.str ("falls" : Str), .str ("grows" : Str), .str ("once" : Str), .str ("same" : Str), .str ("more" : Str)], .lst [.str ("grows" : Str), .str ("once" : Str), .str ("same" : Str), .str ("falls" : Str), .str ("falls" : Str)], .lst [.str ("falls" : Str), .str ("grows" : Str), .str ("once" : Str), .str ("same" : Str), .str ("more" : Str)], .lst [.str ("grows" : Str), .str ("falls" : Str), .str ("once" : Str), .str ("same" : Str), .str ("falls" : Str)], .lst [.str ("falls" : Str), .str ("grows" : Str), .str ("once" : Str), .str ("same" : Str), .str ("more" : Str)], .lst [.str ("grows" : Str), .str ("falls" : Str), .str ("same" : Str), .str ("once" : Str), .str ("falls" : Str)], .lst [.str ("falls" : Str), .str ("grows" : Str), .str ("once" : Str), .str ("same" : Str), .str ("more" : Str)], .lst [.str ("grows" : Str), .str ("same" : Str), .str ("once" : Str), .str ("falls" : Str), .str ("falls" : Str)], .lst [.str ("falls" : Str), .str ("grows" : Str), .str ("once" : Str), .str ("same" : Str), .str ("more" : Str)], .lst [.str ("grows" : Str), .str ("same" : Str), .str ("falls" : Str), .str ("once" : Str), .str ("falls" : Str)], .lst [.str ("falls" : Str), .str ("grows" : Str), .str ("once" : Str), .str ("same" : Str), .str ("more" : Str)], .lst [.str ("same" : Str), .str ("once" : Str), .str ("falls" : Str), .str ("grows" : Str), .str ("falls" : Str)], .lst [.str ("falls" : Str), .str ("grows" : Str), .str ("once" : Str), .str ("same" : Str), .str ("more" : Str)]]
theorem ck14 (ns : List Int) (a b c : Int) : stepsL fB oc14 (.val (.scr ns) :: ex14) (.lst [.int a, .int b, .int c] :: mx14) = some (.val (.scr ns) :: ex15, .lst [.int a, .int b, .int c] :: mx15) := by kernel_rfl
def oc15 : List W := [.lst [.str ("same" : Str), .str ("once" : Str), .str ("grows" : Str), .str ("falls" : Str)], .lst [.str ("same" : Str), .str ("falls" : Str), .str ("once" : Str), .str ("grows" : Str)], .lst [.str ("same" : Str), .str ("falls" : Str), .str ("grows" : Str), .str ("once" : Str)], .lst [.str ("same" : Str), .str ("grows" : Str), .str ("once" : Str), .str ("falls" : Str)]]
def ex16 : En := [.val (.cell 0), .val (.lst [.lst [], .lst [.str ("once" : Str)], .lst [.str ("falls" : Str), .str ("once" : Str)], .lst [.str ("grows" : Str)], .lst [.str ("grows" : Str), .str ("once" : Str)], .lst [.str ("grows" : Str), .str ("once" : Str), .str ("same" : Str)], .lst [.str ("falls" : Str), .str ("grows" : Str), .str ("once" : Str), .str ("same" : Str)]]), .val (.lst [.str ("same" : Str), .str ("grows" : Str), .str ("once" : Str), .str ("falls" : Str)]), .val (.lst [.str ("falls" : Str), .str ("grows" : Str), .str ("once" : Str), .str ("same" : Str)]), .val (.cell 124), .val (.ins 9 [.tup [.str ("falls" : Str), .str ("grows" : Str), .str ("once" : Str), .str ("same" : Str)]]), .no, .no]
def mx16 : Mem := [.lst [.str ("falls" : Str)], .lst [.str ("more" : Str)], .lst [.str ("once" : Str), .str ("falls" : Str)], .lst [.str ("once" : Str), .str ("more" : Str)], .lst [.str ("falls" : Str), .str ("falls" : Str)], .lst [.str ("falls" : Str), .str ("once" : Str), .str ("more" : Str)], .lst [.str ("grows" : Str), .str ("falls" : Str)], .lst [.str ("grows" : Str), .str ("more" : Str)], .lst [.str ("same" : Str)], .lst [.str ("once" : Str), .str ("falls" : Str), .str ("falls" : Str)], .lst [.str ("falls" : Str), .str ("once" : Str), .str ("more" : Str)], .lst [.str ("once" : Str), .str ("grows" : Str), .str ("falls" : Str)], .lst [.str ("grows" : Str), .str ("once" : Str), .str ("more" : Str)], .lst [.str ("once" : Str), .str ("same" : Str), .str ("falls" : Str)], .lst [.str ("grows" : Str), .str ("once" : Str), .str ("same" : Str), .str ("more" : Str)], .lst [.str ("falls" : Str), .str ("once" : Str), .str ("falls" : Str)], .lst [.str ("falls" : Str), .str ("once" : Str), .str ("more" : Str)], .lst [.str ("falls" : Str), .str ("grows" : Str), .str ("falls" : Str)], .lst [.str ("falls" : Str), .str ("grows" : Str), .str ("once" : Str), .str ("same" : Str), .str ("more" : Str)], .lst [.str ("falls" : Str), .str ("same" : Str), .str ("falls" : Str)], .lst [.str ("falls" : Str), .str ("grows" : Str), .str ("once" : Str), .str ("same" : Str), .str ("more" : Str)], .lst [.str ("grows" : Str), .str ("once" : Str), .str ("falls" : Str)], .lst [.str ("grows" : Str), .str ("once" : Str), .str ("more" : Str)], .lst [.str ("grows" : Str), .str ("falls" : Str), .str ("falls" : Str)], .lst [.str ("falls" : Str), .str ("grows" : Str), .str ("once" : Str), .str ("same" : Str), .str ("more" : Str)], .lst [.str ("grows" : Str), .str ("same" : Str)], .lst [.str ("same" : Str), .str ("once" : Str), .str ("falls" : Str)], .lst [.str ("grows" : Str), .str ("once" : Str), .str ("same" : Str), .str ("more" : Str)], .lst [.str ("same" : Str), .str ("falls" : Str), .str ("falls" : Str)], .lst [.str ("falls" : Str), .str ("grows" : Str), .str ("once" : Str), .str ("same" : Str), .str ("more" : Str)], .lst [.str ("same" : Str), .str ("grows" : Str)], .lst [.str ("once" : Str), .str ("falls" : Str), .str ("grows" : Str), .str ("falls" : Str)], .lst [.str ("falls" : Str), .str ("grows" : Str), .str ("once" : Str), .str ("same" : Str), .str ("more" : Str)], .lst [.str ("once" : Str), .str ("falls" : Str), .str ("same" : Str), .str ("falls" : Str)], .lst [.str ("falls" : Str), .str ("grows" : Str), .str ("once" : Str), .str ("same" : Str), .str ("more" : Str)], .lst [.str ("once" : Str), .str ("grows" : Str), .str ("falls" : Str), .str ("falls" : Str)], .lst [.str ("falls" : Str), .str ("grows" : Str), .str ("once" : Str), .str ("same" : Str), .str ("more" : Str)], .lst [.str ("once" : Str), .str ("grows" : Str), .str ("same" : Str), .str ("falls" : Str)], .lst [.str ("grows" : Str), .str ("once" : Str), .str ("same" : Str), .str ("more" : Str)], .lst [.str ("once" : Str), .str ("same" : Str), .str ("falls" : Str), .str ("falls" : Str)], .lst [.str ("falls" : Str), .str ("grows" : Str), .str ("once" : Str), .str ("same" : Str), .str ("more" : Str)], .lst [.str ("once" : Str), .str ("same" : Str), .str ("grows" : Str), .str ("falls" : Str)], .lst [.str ("grows" : Str), .str ("once" : Str), .str ("same" : Str), .str ("more" : Str)], .lst [.str ("falls" : Str), .str ("once" : Str), .str ("grows" : Str), .str ("falls" : Str)], .lst [.str ("falls" : Str), .str ("grows" : Str), .str ("once" : Str), .str ("same" : Str), .str ("more" : Str)], .lst [.str ("falls" : Str), .str ("once" : Str), .str ("same" : Str), .str ("falls" : Str)], .lst [.str ("falls" : Str), .str ("grows" : Str), .str ("once" : Str), .str ("same" : Str), .str ("more" : Str)], .lst [.str ("falls" : Str), .str ("grows" : Str), .str ("once" : Str), .str ("falls" : Str)], .lst [.str ("falls" : Str), .str ("grows" : Str), .str ("once" : Str), .str ("same" : Str), .str ("more" : Str)], .lst [.str ("falls" : Str), .str ("grows" : Str), .str ("same" : Str), .str ("falls" : Str)], .lst [.str ("falls" : Str), .str ("grows" : Str), .str ("once" : Str), .str ("same" : Str), .str ("more" : Str)], .lst [.str ("falls" : Str), .str ("same" : Str), .str ("once" : Str), .str ("falls" : Str)], .lst [.str ("falls" : Str), .str ("grows" : Str), .str ("once" : Str), .str ("same" : Str), .str ("more" : Str)], .lst [.str ("falls" : Str), .str ("same" : Str), .str ("grows" : Str), .str ("falls" : Str)], .lst [.str ("falls" : Str), .str ("grows" : Str), .str ("once" : Str), .str ("same" : Str), .str ("more" : Str)], .lst [.str ("grows" : Str), .str ("once" : Str), .str ("falls" : Str), .str ("falls" : Str)], .lst [.str ("falls" : Str), .str ("grows" : Str), .str ("once" : Str), .str ("same" : Str), .str ("more" : Str)], .lst [.str ("grows" : Str), .str ("once" : Str), .str ("same" : Str), .str ("falls" : Str)], .lst [.str ("grows" : Str), .str ("once" : Str), .str ("same" : Str), .str ("more" : Str)], .lst [.str ("grows" : Str), .str ("falls" : Str), .str ("once" : Str), .str ("falls" : Str)], .lst [.str ("falls" : Str), .str ("grows" : Str), .str ("once" : Str), .str ("same" : Str), .str ("more" : Str)], .lst [.str ("grows" : Str), .str ("falls" : Str), .str ("same" : Str), .str ("falls" : Str)], .lst [.str ("falls" : Str), .str ("grows" : Str), .str ("once" : Str), .str ("same" : Str), .str ("more" : Str)], .lst [.str ("grows" : Str), .str ("same" : Str), .str ("once" : Str), .str ("falls" : Str)], .lst [.str ("grows" : Str), .str ("once" : Str), .str ("same" : Str), .str ("more" : Str)], .lst [.str ("grows" : Str), .str ("same" : Str), .str ("falls" : Str), .str ("falls" : Str)], .lst [.str ("falls" : Str), .str ("grows" : Str), .str ("once" : Str), .str ("same" : Str), .str ("more" : Str)], .lst [.str ("same" : Str), .str ("once" : Str), .str ("falls" : Str), .str ("falls" : Str)], .lst [.str ("falls" : Str), .str ("grows" : Str), .str ("once" : Str), .str ("same" : Str), .str ("more" : Str)], .lst [.str ("same" : Str), .str ("once" : Str), .str ("grows" : Str), .str ("falls" : Str)], .lst [.str ("grows" : Str), .str ("once" : Str), .str ("same" : Str), .str ("more" : Str)], .lst [.str ("same" : Str), .str ("falls" : Str), .str ("once" : Str), .str ("falls" : Str)], .lst [.str ("falls" : Str), .str ("grows" : Str), .str ("once" : Str), .str ("same" : Str), .str ("more" : Str)], .lst [.str ("same" : Str), .str ("falls" : Str), .str ("grows" : Str), .str ("falls" : Str)], .lst [.str ("falls" : Str), .str ("grows" : Str), .str ("once" : Str), .str ("same" : Str), .str ("more" : Str)], .lst [.str ("same" : Str), .str ("grows" : Str), .str ("once" : Str), .str ("falls" : Str)], .lst [.str ("grows" : Str), .str ("once" : Str), .str ("same" : Str), .str ("more" : Str)], .lst [.str ("same" : Str), .str ("grows" : Str), .str ("falls" : Str), .str ("falls" : Str)], .lst [.str ("falls" : Str), .str ("grows" : Str), .str ("once" : Str), .str ("same" : Str), .str ("more" : Str)], .lst [.str ("once" : Str), .str ("falls" : Str), .str ("grows" : Str), .str ("same" : Str), .str ("falls" : Str)], .lst [.str ("falls" : Str), .str ("grows" : Str), .str ("once" : Str), .str ("same" : Str), .str ("more" : Str)], .lst [.str ("once" : Str), .str ("falls" : Str), .str ("same" : Str), .str ("grows" : Str), .str ("falls" : Str)], .lst [.str ("falls" : Str), .str ("grows" : Str), .str ("once" : Str), .str ("same" : Str), .str ("more" : Str)], .lst [.str ("once" : Str), .str ("grows" : Str), .str ("falls" : Str), .str ("same" : Str), .str ("falls" : Str)], .lst [.str ("falls" : Str), .str ("grows" : Str), .str ("once" : Str), .str ("same" : Str), .str ("more" : Str)], .lst [.str ("once" : Str), .str ("grows" : Str), .str ("same" : Str), .str ("falls" : Str), .str ("falls" : Str)], .lst [.str ("falls" : Str), .str ("grows" : Str), .str ("once" : Str), .str ("same" : Str), .str ("more" : Str)], .lst [.str ("once" : Str), .str ("same" : Str), .str ("falls" : Str), .str ("grows" : Str), .str ("falls" : Str)], .lst [.str ("falls" : Str), .str ("grows" : Str), .str ("once" : Str), .str ("same" : Str), .str ("more" : Str)], .lst [.str ("once" : Str), .str ("same" : Str), .str ("grows" : Str), .str ("falls" : Str), .str ("falls" : Str)], .lst [.str ("falls" : Str), .str ("grows" : Str), .str ("once" : Str), .str ("same" : Str), .str ("more" : Str)], .lst [.str ("falls" : Str), .str ("once" : Str), .str ("grows" : Str), .str ("same" : Str), .str ("falls" : Str)], .lst [.str ("falls" : Str), .str ("grows" : Str), .str ("once" : Str), .str ("same" : Str), .str ("more" : Str)], .lst [.str ("falls" : Str), .str ("once" : Str), .str ("same" : Str), .str ("grows" : Str), .str ("falls" : Str)], .lst [.str ("falls" : Str), .str ("grows" : Str), .str ("once" : Str), .str ("same" : Str), .str ("more" : Str)], .lst [.str ("falls" : Str), .str ("grows" : Str), .str ("once" : Str), .str ("same" : Str), .str ("falls" : Str)], .lst [.str ("falls" : Str), .str ("grows" : Str), .str ("once" : Str), .str ("same" : Str), .str ("more" : Str)], .lst [.str ("falls" : Str), .str ("grows" : Str), .str ("same" : Str), .str ("once" : Str), .str ("falls" : Str)], .lst [.str ("falls" : Str), .str ("grows" : Str), .str ("once" : Str), .str ("same" : Str), .str ("more" : Str)], .lst [.str ("falls" : Str), .str ("same" : Str), .str ("once" : Str), .str ("grows" : Str), .str ("falls" : Str)], .lst [.str ("falls" : Str), .str ("grows" : Str), .str ("once" : Str), .str ("same" : Str), .str ("more" : Str)], .lst [.str ("falls" : Str), .str ("same" : Str), .str ("grows" : Str), .str ("once" : Str), .str ("falls" : Str)], .lst [.str ("falls" : Str), .str ("grows" : Str), .str ("once" : Str), .str ("same" : Str), .str ("more" : Str)], .lst [.str ("grows" : Str), .str ("once" : Str), .str ("falls" : Str), .str ("same" : Str), .str ("falls" : Str)], .lst [.str ("falls" : Str), .str ("grows" : Str), .str ("once" : Str), .str ("same" : Str), .str ("more" : Str)], .lst [.str ("grows" : Str), .str ("once" : Str), .str ("same" : Str), .str ("falls" : Str), .str ("falls" : Str)], .lst [.str ("falls" : Str), .str ("grows" : Str), .str ("once" : Str), .str ("same" : Str), .str ("more" : Str)], .lst [.str ("grows" : Str), .str ("falls" : Str), .str ("once" : Str), .str ("same" : Str), .str ("falls" : Str)], .lst [.str ("falls" : Str), .str ("grows" : Str), .str ("once" : Str), .str ("same" : Str), .str ("more" : Str)], .lst [.str ("grows" : Str), .str ("falls" : Str), .str ("same" : Str), .str ("once" : Str), .str ("falls" : Str)], .lst [.str ("falls" : Str), .str ("grows" : Str), .str ("once" : Str), .str ("same" : Str), .str ("more" : Str)], .lst [.str ("grows" : Str), .str ("same" : Str), .str ("once" : Str), .str ("falls" : Str), .str ("falls" : Str)], .lst [.str ("falls" : Str), .str ("grows" : Str), .str ("once" : Str), .str ("same" : Str), .str ("more" : Str)], .lst [.str ("grows" : Str), .str ("same" : Str), .str ("falls" : Str), .str ("once" : Str), .str ("falls" : Str)], .lst [.str ("falls" : Str), .str ("grows" : Str), .str ("once" : Str), .str ("same" : Str), .str ("more" : Str)], .lst [.str ("same" : Str), .str ("once" : Str), .str ("falls" : Str), .str ("grows" : Str), .str ("falls" : Str)], .lst [.str ("falls" : Str), .str ("grows" : Str), .str ("once" : Str), .str ("same" : Str), .str ("more" : Str)], .lst [.str ("same" : Str), .str ("once" : Str), .str ("grows" : Str), .str ("falls" : Str), .str ("falls" : Str)], .lst [.str ("falls" : Str), .str ("grows" : Str), .str ("once" : Str), .str ("same" : Str), .str ("more" : Str)], .lst [.str ("same" : Str), .str ("falls" : Str), .str ("once" : Str), .str ("grows" : Str), .str ("falls" : Str)], .lst [.str ("falls" : Str), .str ("grows" : Str), .str ("once" : Str), .str ("same" : Str), .str ("more" : Str)], .lst [.str ("same" : Str), .str ("falls" : Str), .str ("grows" : Str), .str ("once" : Str), .str ("falls" : Str)], .lst [.str ("falls" : Str), .str ("grows" : Str), .str ("once" : Str), .str ("same" : Str), .str ("more" : Str)], .lst [.str ("same" : Str), .str ("grows" : Str), .str ("once" : Str), .str ("falls" : Str), .str ("falls" : Str)], .lst [.str ("falls" : Str), .str ("grows" : Str), .str ("once" : Str), .str ("same" : Str), .str ("more" : Str)]]
theorem ck15 (ns : List Int) (a b c : Int) : stepsL fB oc15 (.val (.scr ns) :: ex15) (.lst [.int a, .int b, .int c] :: mx15) = some (.val (.scr ns) :: ex16, .lst [.int a, .int b, .int c] :: mx16) := by kernel_rfl
def oc16 : List W := [.lst [.str ("same" : Str), .str ("grows" : Str), .str ("falls" : Str), .str ("once" : Str)]]
def ex17 : En := [.val (.cell 0), .val (.lst [.lst [], .lst [.str ("once" : Str)], .lst [.str ("falls" : Str), .str ("once" : Str)], .lst [.str ("grows" : Str)], .lst [.str ("grows" : Str), .str ("once" : Str)], .lst [.str ("grows" : Str), .str ("once" : Str), .str ("same" : Str)], .lst [.str ("falls" : Str), .str ("grows" : Str), .str ("once" : Str), .str ("same" : Str)]]), .val (.lst [.str ("same" : Str), .str ("grows" : Str), .str ("falls" : Str), .str ("once" : Str)]), .val (.lst [.str ("falls" : Str), .str ("grows" : Str), .str ("once" : Str), .str ("same" : Str)]), .val (.cell 126), .val (.ins 9 [.tup [.str ("falls" : Str), .str ("grows" : Str), .str ("once" : Str), .str ("same" : Str)]]), .no, .no]
def mx17 : Mem := [.lst [.str ("falls" : Str)], .lst [.str ("more" : Str)], .lst [.str ("once" : Str), .str ("falls" : Str)], .lst [.str ("once" : Str), .str ("more" : Str)], .lst [.str ("falls" : Str), .str ("falls" : Str)], .lst [.str ("falls" : Str), .str ("once" : Str), .str ("more" : Str)], .lst [.str ("grows" : Str), .str ("falls" : Str)], .lst [.str ("grows" : Str), .str ("more" : Str)], .lst [.str ("same" : Str)], .lst [.str ("once" : Str), .str ("falls" : Str), .str ("falls" : Str)], .lst [.str ("falls" : Str), .str ("once" : Str), .str ("more" : Str)], .lst [.str ("once" : Str), .str ("grows" : Str), .str ("falls" : Str)], .lst [.str ("grows" : Str), .str ("once" : Str), .str ("more" : Str)], .lst [.str ("once" : Str), .str ("same" : Str), .str ("falls" : Str)], .lst [.str ("grows" : Str), .str ("once" : Str), .str ("same" : Str), .str ("more" : Str)], .lst [.str ("falls" : Str), .str ("once" : Str), .str ("falls" : Str)], .lst [.str ("falls" : Str), .str ("once" : Str), .str ("more" : Str)], .lst [.str ("falls" : Str), .str ("grows" : Str), .str ("falls" : Str)], .lst [.str ("falls" : Str), .str ("grows" : Str), .str ("once" : Str), .str ("same" : Str), .str ("more" : Str)], .lst [.str ("falls" : Str), .str ("same" : Str), .str ("falls" : Str)], .lst [.str ("falls" : Str), .str ("grows" : Str), .str ("once" : Str), .str ("same" : Str), .str ("more" : Str)], .lst [.str ("grows" : Str), .str ("once" : Str), .str ("falls" : Str)], .lst [.str ("grows" : Str), .str ("once" : Str), .str ("more" : Str)], .lst [.str ("grows" : Str), .str ("falls" : Str), .str ("falls" : Str)], .lst [.str ("falls" : Str), .str ("grows" : Str), .str ("once" : Str), .str ("same" : Str), .str ("more" : Str)], .lst [.str ("grows" : Str), .str ("same" : Str)], .lst [.str ("same" : Str), .str ("once" : Str), .str ("falls" : Str)], .lst [.str ("grows" : Str), .str ("once" : Str), .str ("same" : Str), .str ("more" : Str)], .lst [.str ("same" : Str), .str ("falls" : Str), .str ("falls" : Str)], .lst [.str ("falls" : Str), .str ("grows" : Str), .str ("once" : Str), .str ("same" : Str), .str ("more" : Str)], .lst [.str ("same" : Str), .str ("grows" : Str)], .lst [.str ("once" : Str), .str ("falls" : Str), .str ("grows" : Str), .str ("falls" : Str)], .lst [.str ("falls" : Str), .str ("grows" : Str), .str ("once" : Str), .str ("same" : Str), .str ("more" : Str)], .lst [.str ("once" : Str), .str ("falls" : Str), .str ("same" : Str), .str ("falls" : Str)], .lst [.str ("falls" : Str), .str ("grows" : Str), .str ("once" : Str), .str ("same" : Str), .str ("more" : Str)], .lst [.str ("once" : Str), .str ("grows" : Str), .str ("falls" : Str), .str ("falls" : Str)], .lst [.str ("falls" : Str), .str ("grows" : Str), .str ("once" : Str), .str ("same" : Str), .str ("more" : Str)], .lst [.str ("once" : Str), .str ("grows" : Str), .str ("same" : Str), .str ("falls" : Str)], .lst [.str ("grows" : Str), .str ("once" : Str), .str ("same" : Str), .str ("more" : Str)], .lst [.str ("once" : Str), .str ("same" : Str), .str ("falls" : Str), .str ("falls" : Str)], .lst [.str ("falls" : Str), .str ("grows" : Str), .str ("once" : Str), .str ("same" : Str), .str ("more" : Str)], .lst [.str ("once" : Str), .str ("same" : Str), .str ("grows" : Str), .str ("falls" : Str)], .lst [.str ("grows" : Str), .str ("once" : Str), .str ("same" : Str), .str ("more" : Str)], .lst [.str ("falls" : Str), .str ("once" : Str), .str ("grows" : Str), .str ("falls" : Str)], .lst [.str ("falls" : Str), .str ("grows" : Str), .str ("once" : Str), .str ("same" : Str), .str ("more" : Str)], .lst [.str ("falls" : Str), .str ("once" : Str), .str ("same" : Str), .str ("falls" : Str)], .lst [.str ("falls" : Str), .str ("grows" : Str), .str ("once" : Str), .str ("same" : Str), .str ("more" : Str)], .lst [.str ("falls" : Str), .str ("grows" : Str), .str ("once" : Str), .str ("falls" : Str)], .lst [.str ("falls" : Str), .str ("grows" : Str), .str ("once" : Str), .str ("same" : Str), .str ("more" : Str)], .lst [.str ("falls" : Str), .str ("grows" : Str), .str ("same" : Str), .str ("falls" : Str)], .lst [.str ("falls" : Str), .str ("grows" : Str), .str ("once" : Str), .str ("same" : Str), .str ("more" : Str)], .lst [.str ("falls" : Str), .str ("same" : Str), .str ("once" : Str), .str ("falls" : Str)], .lst [.str ("falls" : Str), .str ("grows" : Str), .str ("once" : Str), .str ("same" : Str), .str ("more" : Str)], .lst [.str ("falls" : Str), .str ("same" : Str), .str ("grows" : Str), .str ("falls" : Str)], .lst [.str ("falls" : Str), .str ("grows" : Str), .str ("once" : Str), .str ("same" : Str), .str ("more" : Str)], .lst [.str ("grows" : Str), .str ("once" : Str), .str ("falls" : Str), .str ("falls" : Str)], .lst [.str ("falls" : Str), .str ("grows" : Str), .str ("once" : Str), .str ("same" : Str), .str ("more" : Str)], .lst [.str ("grows" : Str), .str ("once" : Str), .str ("same" : Str), .str ("falls" : Str)], .lst [.str ("grows" : Str), .str ("once" : Str), .str ("same" : Str), .str ("more" : Str)], .lst [.str ("grows" : Str), .str ("falls" : Str), .str ("once" : Str), .str ("falls" : Str)], .lst [.str ("falls" : Str), .str ("grows" : Str), .str ("once" : Str), .str ("same" : Str), .str ("more" : Str)], .lst [.str ("grows" : Str), .str ("falls" : Str), .str ("same" : Str), .str ("falls" : Str)], .lst [.str ("falls" : Str), .str ("grows" : Str), .str ("once" : Str), .str ("same" : Str), .str ("more" : Str)], .lst [.str ("grows" : Str), .str ("same" : Str), .str ("once" : Str), .str ("falls" : Str)], .lst [.str ("grows" : Str), .str ("once" : Str), .str ("same" : Str), .str ("more" : Str)], .lst [.str ("grows" : Str), .str ("same" : Str), .str ("falls" : Str), .str ("falls" : Str)], .lst [.str ("falls" : Str), .str ("grows" : Str), .str ("once" : Str), .str ("same" : Str), .str ("more" : Str)], .lst [.str ("same" : Str), .str ("once" : Str), .str ("falls" : Str), .str ("falls" : Str)], .lst [.str ("falls" : Str), .str ("grows" : Str), .str ("once" : Str), .str ("same" : Str), .str ("more" : Str)], .lst [.str ("same" : Str), .str ("once" : Str), .str ("grows" : Str), .str ("falls" : Str)], .lst [.str ("grows" : Str), .str ("once" : Str), .str ("same" : Str), .str ("more" : Str)], .lst [.str ("same" : Str), .str ("falls" : Str), .str ("once" : Str), .str ("falls" : Str)], .lst [.str ("falls" : Str), .str ("grows" : Str), .str ("once" : Str), .str ("same" : Str), .str ("more" : Str)], .lst [.str ("same" : Str), .str ("falls" : Str), .str ("grows" : Str), .str ("falls" : Str)], .lst [.str ("falls" : Str), .str ("grows" : Str), .str ("once" : Str), .str ("same" : Str), .str ("more" : Str)], .lst [.str ("same" : Str), .str ("grows" : Str), .str ("once" : Str), .str ("falls" : Str)], .lst [.str ("grows" : Str), .str ("once" : Str), .str ("same" : Str), .str ("more" : Str)], .lst [.str ("same" : Str), .str ("grows" : Str), .str ("falls" : Str), .str ("falls" : Str)], .lst [.str ("falls" : Str), .str ("grows" : Str), .str ("once" : Str), .str ("same" : Str), .str ("more" : Str)], .lst [.str ("once" : Str), .str ("falls" : Str), .str ("grows" : Str), .str ("same" : Str), .str ("falls" : Str)], .lst [.str ("falls" : Str), .str ("grows" : Str), .str ("once" : Str), .str ("same" : Str), .str ("more" : Str)], .lst [.str ("once" : Str), .str ("falls" : Str), .str ("same" : Str), .str ("grows" : Str), .str ("falls" : Str)], .lst [.str ("falls" : Str), .str ("grows" : Str), .str ("once" : Str), .str ("same" : Str), .str ("more" : Str)], .lst [.str ("once" : Str), .str ("grows" : Str), .str ("falls" : Str), .str ("same" : Str), .str ("falls" : Str)], .lst [.str ("falls" : Str), .str ("grows" : Str), .str ("once" : Str), .str ("same" : Str), .str ("more" : Str)], .lst [.str ("once" : Str), .str ("grows" : Str), .str ("same" : Str), .str ("falls" : Str), .str ("falls" : Str)], .lst [.str ("falls" : Str), .str ("grows" : Str), .str ("once" : Str), .str ("same" : Str), .str ("more" : Str)], .lst [.str ("once" : Str), .str ("same" : Str), .str ("falls" : Str), .str ("grows" : Str), .str ("falls" : Str)], .lst [.str ("falls" : Str), .str ("grows" : Str), .str ("once" : Str), .str ("same" : Str), .str ("more" : Str)], .lst [.str ("once" : Str), .str ("same" : Str), .str ("grows" : Str), .str ("falls" : Str), .str ("falls" : Str)], .lst [.str ("falls" : Str), .str ("grows" : Str), .str ("once" : Str), .str ("same" : Str), .str ("more" : Str)], .lst [.str ("falls" : Str), .str ("once" : Str), .str ("grows" : Str), .str ("same" : Str), .str ("falls" : Str)], .lst [.str ("falls" : Str), .str ("grows" : Str), .str ("once" : Str), .str ("same" : Str), .str ("more" : Str)], .lst [.str ("falls" : Str), .str ("once" : Str), .str ("same" : Str), .str ("grows" : Str), .str ("falls" : Str)], .lst [.str ("falls" : Str), .str ("grows" : Str), .str ("once" : Str), .str ("same" : Str), .str ("more" : Str)], .lst [.str ("falls" : Str), .str ("grows" : Str), .str ("once" : Str), .str ("same" : Str), .str ("falls" : Str)], .lst [.str ("falls" : Str), .str ("grows" : Str), .str ("once" : Str), .str ("same" : Str), .str ("more" : Str)], .lst [.str ("falls" : Str), .str ("grows" : Str), .str ("same" : Str), .str ("once" : Str), .str ("falls" : Str)], .lst [.str ("falls" : Str), .str ("grows" : Str), .str ("once" : Str), .str ("same" : Str), .str ("more" : Str)], .lst [.str ("falls" : Str), .str ("same" : Str), .str ("once" : Str), .str ("grows" : Str), .str ("falls" : Str)], .lst [.str ("falls" : Str), .str ("grows" : Str), .str ("once" : Str), .str ("same" : Str), .str ("more" : Str)], .lst [.str ("falls" : Str), .str ("same" : Str), .str ("grows" : Str), .str ("once" : Str), .str ("falls" : Str)], .lst [.str ("falls" : Str), .str ("grows" : Str), .str ("once" : Str), .str ("same" : Str), .str ("more" : Str)], .lst [.str ("grows" : Str), .str ("once" : Str), .str ("falls" : Str), .str ("same" : Str), .str ("falls" : Str)], .lst [.str ("falls" : Str), .str ("grows" : Str), .str ("once" : Str), .str ("same" : Str), .str ("more" : Str)], .lst [.str ("grows" : Str), .str ("once" : Str), .str ("same" : Str), .str ("falls" : Str), .str ("falls" : Str)], .lst [.str ("falls" : Str), .str ("grows" : Str), .str ("once" : Str), .str ("same" : Str), .str ("more" : Str)], .lst [.str ("grows" : Str), .str ("falls" : Str), .str ("once" : Str), .str ("same" : Str), .str ("falls" : Str)], .lst [.str ("falls" : Str), .str ("grows" : Str), .str ("once" : Str), .str ("same" : Str), .str ("more" : Str)], .lst [.str ("grows" : Str), .str ("falls" : Str), .str ("same" : Str), .str ("once" : Str), .str ("falls" : Str)], .lst [.str ("falls" : Str), .str ("grows" : Str), .str ("once" : Str), .str ("same" : Str), .str ("more" : Str)], .lst [.str ("grows" : Str), .str ("same" : Str), .str ("once" : Str), .str ("falls" : Str), .str ("falls" : Str)], .lst [.str ("falls" : Str), .str ("grows" : Str), .str ("once" : Str), .str ("same" : Str), .str ("more" : Str)], .lst [.str ("grows" : Str), .str ("same" : Str), .str ("falls" : Str), .str ("once" : Str), .str ("falls" : Str)], .lst [.str ("falls" : Str), .str ("grows" : Str), .str ("once" : Str), .str ("same" : Str), .str ("more" : Str)], .lst [.str ("same" : Str), .str ("once" : Str), .str ("falls" : Str), .str ("grows" : Str), .str ("falls" : Str)], .lst [.str ("falls" : Str), .str ("grows" : Str), .str ("once" : Str), .str ("same" : Str), .str ("more" : Str)], .lst [.str ("same" : Str), .str ("once" : Str), .str ("grows" : Str), .str ("falls" : Str), .str ("falls" : Str)], .lst [.str ("falls" : Str), .str ("grows" : Str), .str ("once" : Str), .str ("same" : Str), .str ("more" : Str)], .lst [.str ("same" : Str), .str ("falls" : Str), .str ("once" : Str), .str ("grows" : Str), .str ("falls" : Str)], .lst [.str ("falls" : Str), .str ("grows" : Str), .str ("once" : Str), .str ("same" : Str), .str ("more" : Str)], .lst [.str ("same" : Str), .str ("falls" : Str), .str ("grows" : Str), .str ("once" : Str), .str ("falls" : Str)], .lst [.str ("falls" : Str), .str ("grows" : Str), .str ("once" : Str), .str ("same" : Str), .str ("more" : Str)], .lst [.str ("same" : Str), .str ("grows" : Str), .str ("once" : Str), .str ("falls" : Str), .str ("falls" : Str)], .lst [.str ("falls" : Str), .str ("grows" : Str), .str ("once" : Str), .str ("same" : Str), .str ("more" : Str)], .lst [.str ("same" : Str), .str ("grows" : Str), .str ("falls" : Str), .str ("once" : Str), .str ("falls" : Str)], .lst [.str ("falls" : Str), .str ("grows" : Str), .str ("once" : Str), .str ("same" : Str), .str ("more" : Str)]]
theorem ck16 (ns : List Int) (a b c : Int) : stepsL fB oc16 (.val (.scr ns) :: ex16) (.lst [.int a, .int b, .int c] :: mx16) = some (.val (.scr ns) :: ex17, .lst [.int a, .int b, .int c] :: mx17) := by kernel_rfl
def rs17 : List W := []
def rs16 : List W := oc16 ++ rs17
def rs15 : List W := oc15 ++ rs16
def rs14 : List W := oc14 ++ rs15
def rs13 : List W := oc13 ++ rs14
def rs12 : List W := oc12 ++ rs13
def rs11 : List W := oc11 ++ rs12
def rs10 : List W := oc10 ++ rs11
def rs9 : List W := oc9 ++ rs10
def rs8 : List W := oc8 ++ rs9
def rs7 : List W := oc7 ++ rs8
def rs6 : List W := oc6 ++ rs7
def rs5 : List W := oc5 ++ rs6
def rs4 : List W := oc4 ++ rs5
def rs3 : List W := oc3 ++ rs4
def rs2 : List W := oc2 ++ rs3
def rs1 : List W := oc1 ++ rs2
def rs0 : List W := oc0 ++ rs1
def envB : En := ex17
def mB : Mem := mx17
section
variable (ns : List Int) (a b c : Int)
theorem st0 : forL fB none rs0 (.val (.scr ns) :: ex0) (.lst [.int a, .int b, .int c] :: mx0) = forL fB none rs1 (.val (.scr ns) :: ex1) (.lst [.int a, .int b, .int c] :: mx1) := steps_for (ys := rs1) (ck0 ns a b c)
theorem st1 : forL fB none rs1 (.val (.scr ns) :: ex1) (.lst [.int a, .int b, .int c] :: mx1) = forL fB none rs2 (.val (.scr ns) :: ex2) (.lst [.int a, .int b, .int c] :: mx2) := steps_for (ys := rs2) (ck1 ns a b c)
theorem st2 : forL fB none rs2 (.val (.scr ns) :: ex2) (.lst [.int a, .int b, .int c] :: mx2) = forL fB none rs3 (.val (.scr ns) :: ex3) (.lst [.int a, .int b, .int c] :: mx3) := steps_for (ys := rs3) (ck2 ns a b c)
theorem st3 : forL fB none rs3 (.val (.scr ns) :: ex3) (.lst [.int a, .int b, .int c] :: mx3) = forL fB none rs4 (.val (.scr ns) :: ex4) (.lst [.int a, .int b, .int c] :: mx4) := steps_for (ys := rs4) (ck3 ns a b c)
theorem st4 : forL fB none rs4 (.val (.scr ns) :: ex4) (.lst [.int a, .int b, .int c] :: mx4) = forL fB none rs5 (.val (.scr ns) :: ex5) (.lst [.int a, .int b, .int c] :: mx5) := steps_for (ys := rs5) (ck4 ns a b c)
theorem st5 : forL fB none rs5 (.val (.scr ns) :: ex5) (.lst [.int a, .int b, .int c] :: mx5) = forL fB none rs6 (.val (.scr ns) :: ex6) (.lst [.int a, .int b, .int c] :: mx6) := steps_for (ys := rs6) (ck5 ns a b c)
theorem st6 : forL fB none rs6 (.val (.scr ns) :: ex6) (.lst [.int a, .int b, .int c] :: mx6) = forL fB none rs7 (.val (.scr ns) :: ex7) (.lst [.int a, .int b, .int c] :: mx7) := steps_for (ys := rs7) (ck6 ns a b c)
theorem st7 : forL fB none rs7 (.val (.scr ns) :: ex7) (.lst [.int a, .int b, .int c] :: mx7) = forL fB none rs8 (.val (.scr ns) :: ex8) (.lst [.int a, .int b, .int c] :: mx8) := steps_for (ys := rs8) (ck7 ns a b c)
theorem st8 : forL fB none rs8 (.val (.scr ns) :: ex8) (.lst [.int a, .int b, .int c] :: mx8) = forL fB none rs9 (.val (.scr ns) :: ex9) (.lst [.int a, .int b, .int c] :: mx9) := steps_for (ys := rs9) (ck8 ns a b c)
theorem st9 : forL fB none rs9 (.val (.scr ns) :: ex9) (.lst [.int a, .int b, .int c] :: mx9) = forL fB none rs10 (.val (.scr ns) :: ex10) (.lst [.int a, .int b, .int c] :: mx10) := steps_for (ys := rs10) (ck9 ns a b c)
theorem st10 : forL fB none rs10 (.val (.scr ns) :: ex10) (.lst [.int a, .int b, .int c] :: mx10) = forL fB none rs11 (.val (.scr ns) :: ex11) (.lst [.int a, .int b, .int c] :: mx11) := steps_for (ys := rs11) (ck10 ns a b c)
theorem st11 : forL fB none rs11 (.val (.scr ns) :: ex11) (.lst [.int a, .int b, .int c] :: mx11) = forL fB none rs12 (.val (.scr ns) :: ex12) (.lst [.int a, .int b, .int c] :: mx12) := steps_for (ys := rs12) (ck11 ns a b c)
theorem st12 : forL fB none rs12 (.val (.scr ns) :: ex12) (.lst [.int a, .int b, .int c] :: mx12) = forL fB none rs13 (.val (.scr ns) :: ex13) (.lst [.int a, .int b, .int c] :: mx13) := steps_for (ys := rs13) (ck12 ns a b c)
theorem st13 : forL fB none rs13 (.val (.scr ns) :: ex13) (.lst [.int a, .int b, .int c] :: mx13) = forL fB none rs14 (.val (.scr ns) :: ex14) (.lst [.int a, .int b, .int c] :: mx14) := steps_for (ys := rs14) (ck13 ns a b c)
theorem st14 : forL fB none rs14 (.val (.scr ns) :: ex14) (.lst [.int a, .int b, .int c] :: mx14) = forL fB none rs15 (.val (.scr ns) :: ex15) (.lst [.int a, .int b, .int c] :: mx15) := steps_for (ys := rs15) (ck14 ns a b c)
theorem st15 : forL fB none rs15 (.val (.scr ns) :: ex15) (.lst [.int a, .int b, .int c] :: mx15) = forL fB none rs16 (.val (.scr ns) :: ex16) (.lst [.int a, .int b, .int c] :: mx16) := steps_for (ys := rs16) (ck15 ns a b c)
theorem st16 : forL fB none rs16 (.val (.scr ns) :: ex16) (.lst [.int a, .int b, .int c] :: mx16) = forL fB none rs17 (.val (.scr ns) :: ex17) (.lst [.int a, .int b, .int c] :: mx17) := steps_for (ys := rs17) (ck16 ns a b c)
end
theorem evS_for {T : Pg} {cf : CF} {tg : Tg} {it : Mi.It} {b : Ss} {env : En} {m m1 : Mem} {xs : List W} (hi : evI T cf env it m = .ok (xs, none) m1) : evS T cf (.for tg it b) env m = forL (fun x env m => match bindT tg x env with | some env' => evSs T cf b env' m | none => .stuck) none xs env m1 := by rw [evS, hi]; rfl
theorem ords (ns : List Int) (m : Mem) : evI T1 (cfN T1 19) (envA ns) (.e (.call 84 .nil)) m = .ok (rs0, none) m := by kernel_rfl
theorem stE (ns : List Int) (a b c : Int) : forL fB none rs17 (.val (.scr ns) :: ex17) (.lst [.int a, .int b, .int c] :: mx17) = .next (.val (.scr ns) :: envB) (.lst [.int a, .int b, .int c] :: mB) := by kernel_rfl
theorem runA (ns : List Int) (a b c : Int) : evS T1 (cfN T1 19) s87_3 (envA ns) [.lst [.int a, .int b, .int c]] = .next (.val (.scr ns) :: envB) (.lst [.int a, .int b, .int c] :: mB) :=
  (evS_for (ords ns _)).trans ((st0 ns a b c).trans ((st1 ns a b c).trans ((st2 ns a b c).trans ((st3 ns a b c).trans ((st4 ns a b c).trans ((st5 ns a b c).trans ((st6 ns a b c).trans ((st7 ns a b c).trans ((st8 ns a b c).trans ((st9 ns a b c).trans ((st10 ns a b c).trans ((st11 ns a b c).trans ((st12 ns a b c).trans ((st13 ns a b c).trans ((st14 ns a b c).trans ((st15 ns a b c).trans ((st16 ns a b c).trans (stE ns a b c))))))))))))))))))
end MiP

set_option Elab.async false
set_option linter.all false
set_option maxRecDepth 100000
set_option maxHeartbeats 0
namespace MiP
open PySem L2 Mi
def odds : List W := [.non, .tup [.str ("once" : Str)], .str ("once" : Str), .lst [.str ("Once" : Str)], .lst [.str ("once" : Str), .str ("once" : Str)], .lst [.non], .lst [.lst [.str ("once" : Str)]], .dct false [] [], .lst [.str ("a" : Str), .int 1]]
def oddE : E := (.list (.cons .non (.cons (.tup (.cons (.str ("once" : Str)) .nil)) (.cons (.str ("once" : Str)) (.cons (.list (.cons (.str ("Once" : Str)) .nil)) (.cons (.list (.cons (.str ("once" : Str)) (.cons (.str ("once" : Str)) .nil))) (.cons (.list (.cons .non .nil)) (.cons (.list (.cons (.list (.cons (.str ("once" : Str)) .nil)) .nil)) (.cons (.dict false .nil) (.cons (.list (.cons (.str ("a" : Str)) (.cons (.int 1) .nil))) .nil))))))))))
def retE : E := (.bool true (.cons (.cmp .eq (.blt .len (.cons (.var 2) .nil)) (.int 7)) (.cons (.cmp .eq e87_6 (.list .nil)) .nil)))
def restS : Ss := (.cons s87_5 (.cons (.ret retE) .nil))
theorem b87_eq : b87 = (.cons (.set 1 false (.cell (.call 80 (.cons (.var 0) (.cons (.int 0) .nil))))) (.cons (.set 2 false (.list .nil)) (.cons s87_3 (.cons (.set 8 false (.call 82 (.cons (.var 1) (.cons oddE .nil)))) restS)))) := rfl
theorem restM (ns : List Int) (m : Mem) : (odds.map fun w => evSs T1 (cfN T1 19) restS ((.val (.scr ns) :: envB).set 8 (.val w)) m) = odds.map fun _ => SR.ret (.val (.bl true)) m := by kernel_rfl
theorem restW (ns : List Int) (m : Mem) {w : W} (h : w ∈ odds) : evSs T1 (cfN T1 19) restS ((.val (.scr ns) :: envB).set 8 (.val w)) m = .ret (.val (.bl true)) m := List.map_inj_left.mp (restM ns m) w h
theorem oddV (ns : List Int) (m : Mem) : evE T1 (cfN T1 19) (.val (.scr ns) :: envB) oddE m = .ok (.new (.lst odds)) m := by kernel_rfl
theorem plain : ∀ ns : List Int, ns.length ≤ 63 → ∃ m, (cfN pd.pg 20).call lawI [.scr ns] [] = .ok (.val (.bl true)) m := fun ns _ => by
  obtain ⟨a, b, e1, a0, b0, b1⟩ := purse_ok (T := T1) (pu := 80) (n := 18) (ns := ns) (j := 0) (m := []) rfl (by omega)
  obtain ⟨w, m', e2, hw, _⟩ := pick_ok (T := T1) (dr := 81) (pk := 82) (n := 17) (i := 0) (K := 0) (xs := odds) (m := .lst [.int a, .int b, .int 0] :: mB) rfl rfl ⟨a, b, 0, rfl, a0, b0, b1, by omega, by omega⟩ (by omega) (by decide) (by decide)
  refine ⟨m', ?_⟩
  rw [call_at (T := T1) (n := 19) (np := 1) (ns := 9) (b := b87) rfl rfl, b87_eq]
  have s1 : evS T1 (cfN T1 19) (.set 1 false (.cell (.call 80 (.cons (.var 0) (.cons (.int 0) .nil))))) (env0 9 ([.scr ns].map .val)) [] = .next [.val (.scr ns), .val (.cell 0), .no, .no, .no, .no, .no, .no, .no] [.lst [.int a, .int b, .int 0]] := by
    simp [Mi.evSs, Mi.evS, Mi.evE, Mi.evWs, Mi.evRs, Mi.evB, Mi.evIf, Mi.evI, Mi.evKs, Mi.toS, Mi.Out.bind, Mi.esc, Mi.rd, Mi.ixV, Mi.optInt, Mi.cmpG, Mi.boolRV, Mi.cmpV, Mi.lift, Mi.bltG, Mi.reads, Mi.bltV, Mi.deepRs, Mi.deepR, Mi.binG, Mi.binV, Mi.setOwn, Mi.setOwns, Mi.setItm, Mi.setV, Mi.SR.seq, Mi.retV, Mi.outOf, L2.atI, L2.ixN, Mi.Ob.w, Mi.isTy, Mi.isiB, Mi.noX, Mi.env0, e1]
  have s2 : evS T1 (cfN T1 19) (.set 2 false (.list .nil)) [.val (.scr ns), .val (.cell 0), .no, .no, .no, .no, .no, .no, .no] [.lst [.int a, .int b, .int 0]] = .next (envA ns) [.lst [.int a, .int b, .int 0]] := by kernel_rfl
  have s8 : evS T1 (cfN T1 19) (.set 8 false (.call 82 (.cons (.var 1) (.cons oddE .nil)))) (.val (.scr ns) :: envB) (.lst [.int a, .int b, .int 0] :: mB) = .next ((.val (.scr ns) :: envB).set 8 (.val w)) m' := by
    rw [evS, evE, evWs, evE]
    simp only [show (Sl.val (.scr ns) :: envB)[1]? = some (.val (.cell 0)) from rfl, Out.bind, toS, esc, evWs, oddV, Ob.w, e2]
    rfl
  rw [evSs_next s1, evSs_next s2, evSs_next (runA ns a b 0), evSs_next s8, restW ns m' hw]
  rfl
end MiP

set_option Elab.async false
set_option linter.all false
set_option maxRecDepth 100000
set_option maxHeartbeats 0
namespace MiP
open PySem PySem.Spec PyProof.Rows L2 Mi
abbrev R : PySem.W.OpenRow := PySem.W.OpenLaw.row PySem.Challenge.rw_anymanner_k11_sorts_made
abbrev hk : PySem.W.Hook := hookM 5 pd
def ob (s : PySem.W.SharedT) : AlM := obsMG 5 pd (HandSHeadRun.getT s)
theorem ob_eq (s : PySem.W.SharedT) : ob s = hk.obs s.abs := obsMG_eq (HandSHeadRun.getT_eq s)
def goalR (w : World) : Prop := HandSHeadRun.RunEq R (PySem.W.view R.prog [lawP]) hk ob 6000 names w
theorem run0 (w : World) : goalR (w.withFollow "special-get-raises" false) := by
  intro os
  kernel_rfl
theorem run1 (w : World) : goalR (w.withFollow "special-get-raises" true) := by
  intro os
  kernel_rfl
theorem run (w : World) : HandSHeadRun.RunEq R (PySem.W.view R.prog [lawP]) hk ob 6000 names w := PySem.W.byRow2 "special-get-raises" (P := goalR) run0 run1 w
theorem okI : pd.okI = true := by decide +kernel
theorem okT : pd.all.all (fun r => r.okT pd.pg) = true := by decide +kernel
end MiP
open PySem PySem.W PySem.Calls PyProof.Rows
theorem PySem.Challenge.cw_anymanner_k11_sorts_made_holds : PySem.Challenge.rw_anymanner_k11_sorts_made.Holds := by
  w_on; o_law
  refine HandSHeadRun.head_any (r := OpenLaw.row PySem.Challenge.rw_anymanner_k11_sorts_made) (q := view (OpenLaw.row PySem.Challenge.rw_anymanner_k11_sorts_made).prog [MiP.lawP]) (H := MiP.hk) (ob := MiP.ob) (M := 6000) (loose := MiP.names) (d := HandSHeadRun.topDef (OpenLaw.row PySem.Challenge.rw_anymanner_k11_sorts_made).prog MiP.lawP) (kwd := []) MiP.ob_eq
    (by kernel_rfl) (fun s => by kernel_rfl) MiP.run (by kernel_rfl) (by kernel_rfl) (by kernel_rfl) (by rfl) (by first | assumption | decide +kernel) (by decide +kernel) ⟨rfl, rfl, rfl, rfl, rfl, by decide +kernel⟩ ?hw ?hc
  case hw => w_witness2
  case hc => exact Mi.walkM (l := PySem.Challenge.rw_anymanner_k11_sorts_made) (n := 63) (N := 20) (D := MiP.pd) (L := MiP.lawI) rfl (by decide) (by kernel_rfl) ⟨rfl, by decide, by decide⟩ (by kernel_rfl) rfl rfl rfl MiP.okT MiP.okI (by kernel_rfl) (by decide +kernel) MiP.plain

