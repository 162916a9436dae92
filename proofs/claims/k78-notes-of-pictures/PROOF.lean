import PyProof.Rows.All
import Wide.All
import OpenK.AllK
import Wide.FinOn
import HandS.ForMost
import HandS.IsInst
import HandS.StrMore
import HandS.FStr
import HandS.Flow
import HandS.Deep
import HandS.Wide
import HandS.ReplaceList
import HandS.Gcd
import HandS.TupAny
import HandS.SortInts
import HandS.ExcOwn
import HandS.WordsExc
import HandS.ReplaceLit
import HandS.Style
import HandS.SetBool
import HandS.Strs
import HandS.Zip
import KE.KExcSuper
import HandS.ExcField
import HandS.ExcInit
import HandS.Defaults
import HandS.HeadHook1
import HandS.HeadHook2
import HandS.HeadHook4
import HandS.EndBits
import KE.KStateDown
import HandS.Head0
import HandS.Head1
import HandS.Head2
import PySem.Challenge.RW_askewread_k78_notes_of_pictures
set_option Elab.async false
set_option linter.all false
set_option maxRecDepth 100000
set_option maxHeartbeats 0
namespace Cr
open PySem

/-- data without places -/
inductive D where
  | non | bool (b : Bool) | int (i : Int) | str (s : List Nat)
  | list (xs : List D) | tup (xs : List D) | rol (xs : List D)
  deriving Inhabited
/-- what a name may hold: data, or a cell of the store -/
inductive W where
  | d (x : D) | ref (n : Nat)
  deriving Inhabited
inductive Cell where
  /-- a list that may change -/
  | list (xs : List W)
  /-- a tuple that holds cells -/
  | tup (xs : List W)
  | frz (d : D)
  deriving Inhabited
abbrev Store := List Cell
inductive Res (α : Type) where
  | ok (a : α) (s : Store) | exc (c : Str) (d : Option (Str × D)) (s : Store) | bad
abbrev M (α : Type) := Store → Res α
def M.pure {α : Type} (a : α) : M α := fun s => .ok a s
def Res.andThen {α β : Type} (r : Res α) (f : α → M β) : Res β := match r with
  | .ok a s => f a s
  | .exc c d s => .exc c d s
  | .bad => .bad
def M.bind {α β : Type} (m : M α) (f : α → M β) : M β := fun s => (m s).andThen f
def M.bad {α : Type} : M α := fun _ => .bad
def lift {α : Type} (o : Option α) : M α := fun s => match o with
  | some a => .ok a s
  | none => .bad
def guard (b : Bool) : M Unit := fun s => if b then .ok () s else .bad

inductive Bi where
  | len | all | any | int | str | list | abs | max | min | sum | tuple | maxL | minL | sorted
  deriving DecidableEq, Inhabited
inductive Mt where
  | join | split | index | find | startswith
  deriving DecidableEq, Inhabited
inductive Ty where
  | bool | int | str | list | tuple
  deriving DecidableEq, Inhabited
inductive Pt where
  | name (i : Nat) | tup (ps : List Pt)
  deriving Inhabited
inductive E where
  | bad | nil
  | var (i : Nat)
  | glob (x : Str)
  | con (d : D)
  | tup (es : List E)
  | list (m : Bool) (es : List E)
  /-- displays that keep cells -/
  | listw (es : List E) | tupw (es : List E)
  | bin (m : Bool) (op : Operator) (a b : E)
  | un (op : UnaryOp) (a : E)
  | cmp (op : CmpOp) (a b : E)
  | cmp2 (op op2 : CmpOp) (a b c : E)
  | and (a b : E) | or (a b : E) | not (a : E)
  | ite (c a b : E)
  | idx (a i : E)
  | slice (m bl bh : Bool) (a lo hi : E)
  | rev (a : E)
  | call (m : Bool) (f : Str) (es : List E)
  | bi (m : Bool) (f : Bi) (es : List E)
  | mt (m : Bool) (f : Mt) (o : E) (es : List E)
  | app (o e : E)
  | appw (o e : E)
  | ext (o e : E)
  | len (a : E)
  | gcd (a b : E)
  | repl (o : E) (y z : List Nat)
  | isN (neg : Bool) (a : E)
  | range (es : List E) | enum (a : E) | zip (a b : E)
  | lc (m : Bool) (elt : E) (tg : Pt) (it : E) (cs : List E) (own : List Nat)
  | lcw (elt : E) (tg : Pt) (it : E) (cs : List E) (own : List Nat)
  /-- len of a set comprehension of ints -/
  | lenSC (elt : E) (tg : Pt) (it : E) (cs : List E) (own : List Nat)
  | fs (es : List E)
  | fmt (a : E)
  | isI (a : E) (t : Ty)
  deriving Inhabited
/-- what an except suite may hand back: of the caught exception the field's datum alone -/
inductive HX where
  | con (d : D) | fld (f : Str) | tup (es : List HX)
  deriving Inhabited
inductive S where
  | bad
  | asg (p : Pt) (e : E)
  | asgIx (o i e : E)
  | asgSl (o lo hi e : E)
  | augIx (op : Operator) (o i e : E)
  | par2 (i j : Nat) (a b : E)
  | par3 (i j k : Nat) (a b c : E)
  | raise (c f : Str) (e : E)
  | tryAs (b : List S) (c : Str) (i : Nat) (h : HX)
  | aug (i : Nat) (op : Operator) (e : E)
  | expr (e : E)
  | ret (e : E)
  | ite (c : E) (a b : List S)
  | while (c : E) (b : List S)
  | for (p : Pt) (it : E) (b : List S)
  | pass | brk | cont
  deriving Inhabited
inductive Flow where
  | next | ret (w : W) | brk | cont | exc (c : Str) (d : Option (Str × D))
abbrev Env := List (Option W)

mutual
def D.toPy : D → Option PyData
  | .non => some .none
  | .bool b => some (.bool b)
  | .int i => some (.int i)
  | .str s => some (.str ⟨s.toArray⟩)
  | .list xs => (D.toPys xs).map .list
  | .tup xs => (D.toPys xs).map .tuple
  | .rol xs => (D.toPys xs).map .list
def D.toPys : List D → Option (List PyData)
  | [] => some []
  | x :: xs => (D.toPy x).bind fun a => (D.toPys xs).map fun r => a :: r
end
def eqDeep (x y : D) : Option Bool := (D.toPy x).bind fun a => (D.toPy y).bind fun b =>
  if SeqAt.shaped a && SeqAt.shaped b then some (PyData.eqv a b) else none
def eqD (x y : D) : Option Bool := match x, y with
  | .int a, .int b => some (decide (a = b))
  | .str a, .str b => some (decide (a = b))
  | .bool a, .bool b => some (decide (a = b))
  | .non, .non => some true
  | x, y => eqDeep x y
def D.flat : D → Bool
  | .non => true | .bool _ => true | .int _ => true | .str _ => true | _ => false
/-- == of flat data -/
def eqF : D → D → Bool
  | .non, .non => true
  | .bool a, .bool b => a == b
  | .bool a, .int b => (if a then 1 else 0) == b
  | .int a, .bool b => a == (if b then 1 else 0)
  | .int a, .int b => a == b
  | .str a, .str b => decide (a = b)
  | _, _ => false
def fits (n : Nat) : Bool := decide (n ≤ 16777216)
def items : D → Option (List D)
  | .list xs => some xs | .tup xs => some xs | .rol xs => some xs | _ => none
def strsL : List D → Option (List (List Nat))
  | [] => some []
  | .str s :: xs => (strsL xs).map fun r => s :: r
  | _ :: _ => none
def boolsL : List D → Option (List Bool)
  | [] => some []
  | .bool s :: xs => (boolsL xs).map fun r => s :: r
  | _ :: _ => none
def intsL : List D → Option (List Int)
  | [] => some []
  | .int s :: xs => (intsL xs).map fun r => s :: r
  | _ :: _ => none
def truth : D → Option Bool
  | .non => some false
  | .bool b => some b
  | .int i => some (i != 0)
  | .str s => if fits s.length then some (!s.isEmpty) else none
  | .list xs => some (!xs.isEmpty)
  | .tup xs => some (!xs.isEmpty)
  | .rol xs => some (!xs.isEmpty)
def small64 (i : Int) : Bool := decide (-(2 ^ 64) < i ∧ i < 2 ^ 64)
def bits (i : Int) : Nat := i.natAbs.log2 + 1
def mulOk (i j : Int) : Bool := small64 i || small64 j
def intBin (op : Operator) (i j : Int) : Option Int := match op with
  | .Add => some (i + j)
  | .Sub => some (i - j)
  | .Mult => if mulOk i j then some (i * j) else none
  | .FloorDiv => if decide (0 < j) && decide (j < 1073741824) then some (i / j) else none
  | .Mod => if decide (0 < j) then some (i % j) else none
  | .Pow => if decide (0 ≤ j) && decide (j ≤ 1000000) && decide (i.natAbs < 2 ^ 64) then some (i ^ j.toNat) else none
  | .LShift => if decide (0 ≤ j) && decide (j ≤ 1000000) && decide (i.natAbs < 2 ^ 64) then some (i * 2 ^ j.toNat) else none
  | .RShift => if decide (0 ≤ j) then some (i / 2 ^ j.toNat) else none
  | .BitAnd => some (Builtin.bitAnd i j)
  | .BitOr => some (Builtin.bitOr i j)
  | .BitXor => some (Builtin.bitXor i j)
  | _ => none
def binD (op : Operator) (x y : D) : Option D := match x, y with
  | .int i, .int j => (intBin op i j).map .int
  | .str a, .str b => match op with
    | .Add => if fits (a.length + b.length) then some (.str (a ++ b)) else none
    | _ => none
  | .str a, .int k => match op with
    | .Mult => if decide (-(2 ^ 63) ≤ k ∧ k < 2 ^ 63) && fits (a.length * k.toNat) then some (.str (List.replicate k.toNat a).flatten) else none
    | _ => none
  | .list a, .list b => match op with
    | .Add => if fits (a.length + b.length) then some (.list (a ++ b)) else none
    | _ => none
  | .list a, .int k => match op with
    | .Mult => if decide (-(2 ^ 63) ≤ k ∧ k < 2 ^ 63) && fits (a.length * k.toNat) then some (.list (List.replicate k.toNat a).flatten) else none
    | _ => none
  | _, _ => none
def unD (op : UnaryOp) (x : D) : Option D := match op, x with
  | .USub, .int i => some (.int (-i))
  | .Invert, .int i => some (.int (Builtin.bitNot i))
  | _, _ => none
/-- x in ys, by == of data -/
def inDeep (x : D) (ys : List D) : Option Bool := (D.toPy x).bind fun d => (D.toPys ys).bind fun ds =>
  if d.canLay0 && PyData.canLayAll0 ds && decide (d.depth ≤ 60) then some (ds.any fun y => PyData.eqv y d) else none
def inD (x y : D) : Option Bool := match x, y with
  | .str [c], .str z => some (decide (c ∈ z))
  | x, .list ys => if x.flat && ys.all D.flat then some (ys.any fun z => eqF z x) else inDeep x ys
  | x, .tup ys => if x.flat && ys.all D.flat then some (ys.any fun z => eqF z x) else inDeep x ys
  | x, .rol ys => if x.flat && ys.all D.flat then some (ys.any fun z => eqF z x) else inDeep x ys
  | _, _ => none
def isNon : D → Bool
  | .non => true | _ => false
def ordD (f : Int → Int → Bool) (x y : D) : Option Bool := match x, y with
  | .int i, .int j => some (f i j)
  | _, _ => none
def cmpD (op : CmpOp) (x y : D) : Option Bool := match op with
  | .Eq => eqD x y
  | .NotEq => (eqD x y).map (!·)
  | .In => inD x y
  | .NotIn => (inD x y).map (!·)
  | .Is => match y with | .non => some (isNon x) | _ => none
  | .IsNot => match y with | .non => some (!isNon x) | _ => none
  | .Lt => ordD (fun i j => decide (i < j)) x y
  | .LtE => ordD (fun i j => decide (i ≤ j)) x y
  | .Gt => ordD (fun i j => decide (j < i)) x y
  | .GtE => ordD (fun i j => decide (j ≤ i)) x y
def cut {α : Type} (xs : List α) (lo hi : Option Int) : List α := (xs.drop (HT.sIx xs.length 0 lo)).take (HT.sIx xs.length xs.length hi - HT.sIx xs.length 0 lo)
def idxD (x i : D) : Option D := match x, i with
  | .list xs, .int i => L2.atI xs i
  | .tup xs, .int i => L2.atI xs i
  | .rol xs, .int i => L2.atI xs i
  | .str s, .int i => if fits s.length then (L2.atI s i).map fun c => .str [c] else none
  | _, _ => none
def sliceD (x : D) (lo hi : Option Int) : Option D := match x with
  | .list xs => some (.list (cut xs lo hi))
  | .rol xs => some (.list (cut xs lo hi))
  | .tup xs => some (.tup (cut xs lo hi))
  | .str s => if fits s.length then some (.str (cut s lo hi)) else none
  | _ => none
def lenD : D → Option Nat
  | .list xs => some xs.length | .tup xs => some xs.length | .rol xs => some xs.length
  | .str s => if fits s.length then some s.length else none
  | _ => none
def intStr (i : Int) : List Nat := (Str.ofString (toString i)).cps.toList
def strOfInt (i : Int) : Option (List Nat) := if decide (i.natAbs.log2 < 1920) then some (intStr i) else none
def maxI : List Int → Option Int
  | [] => none
  | n :: ns => some (ns.foldl (fun a b => if b > a then b else a) n)
def minI : List Int → Option Int
  | [] => none
  | n :: ns => some (ns.foldl (fun a b => if b < a then b else a) n)
def insI (n : Int) : List Int → List Int
  | [] => [n]
  | m :: ms => if n ≤ m then n :: m :: ms else m :: insI n ms
def sortI : List Int → List Int
  | [] => []
  | n :: ns => insI n (sortI ns)
/-- the set of some ints: each once, as they came -/
def addI (acc : List Int) (n : Int) : List Int := if n ∈ acc then acc else acc ++ [n]
def lenSet (ys : List D) : Option D := if decide (ys.length < 4096) then (intsL ys).map fun ns => .int ((ns.foldl addI []).length : Int) else none
def biD (f : Bi) (xs : List D) : Option D := match f, xs with
  | .len, [x] => (lenD x).map fun (n : Nat) => .int (n : Int)
  | .all, [.list xs] => (boolsL xs).map fun bs => .bool (bs.all id)
  | .any, [.list xs] => (boolsL xs).map fun bs => .bool (bs.any id)
  | .int, [.int i] => some (.int i)
  | .int, [.bool k] => some (.int (if k then 1 else 0))
  | .int, [.str s] => if decide (s.length ≤ 640) then (intText? ⟨s.toArray⟩).map .int else none
  | .str, [.int i] => (strOfInt i).map .str
  | .list, [x] => (items x).map .list
  | .abs, [.int i] => some (.int (if i < 0 then -i else i))
  | .max, [.int i, .int j] => some (.int (if j > i then j else i))
  | .min, [.int i, .int j] => some (.int (if j < i then j else i))
  | .sum, [.list xs] => (intsL xs).map fun ns => .int ns.sum
  | .tuple, [.list xs] => some (.tup xs)
  | .tuple, [.rol xs] => some (.tup xs)
  | .tuple, [.tup xs] => some (.tup xs)
  | .maxL, [.list xs] => (intsL xs).bind fun ns => (maxI ns).map .int
  | .minL, [.list xs] => (intsL xs).bind fun ns => (minI ns).map .int
  | .sorted, [.list xs] => (intsL xs).map fun ns => .list ((sortI ns).map .int)
  | _, _ => none
def joinC (sep : List Nat) (parts : List (List Nat)) : List Nat := TL.joinL sep parts
def splitC (sep s : List Nat) : List (List Nat) := TL.spl sep 0 [] s
/-- the first place of one sign -/
def mt1D (f : Mt) (s : List Nat) (x : D) : Option D := match f with
  | .join => (items x).bind fun l => (strsL l).bind fun ps =>
      if fits ((ps.map (·.length)).sum + ps.length * s.length) then some (.str (joinC s ps)) else none
  | .split => match x with
    | .str sep => if !sep.isEmpty && sep.all (· < 256) && fits (s.length + 2) then some (.list ((splitC sep s).map .str)) else none
    | _ => none
  | .index => match x with
    | .str [c] => if decide (c ∈ s) then some (.int (s.idxOf c)) else none
    | _ => none
  | .find => match x with
    | .str [c] => some (.int (if c ∈ s then (s.idxOf c : Int) else -1))
    | _ => none
  | .startswith => match x with
    | .str p => some (.bool (decide (s.take p.length = p)))
    | _ => none
/-- a written text put for a written text -/
def repD (y z : List Nat) (x : D) : Option D := match x with
  | .str s => if fits (s.length + (s.length + 1) * z.length) && decide (1 ≤ y.length) && decide (y ≠ z) then some (.str (PySem.StrLaws.replL y z s)) else none
  | _ => none
def gcdD (x y : D) : Option D := match x, y with
  | .int i, .int j => some (.int ((Nat.gcd i.natAbs j.natAbs : Nat) : Int))
  | _, _ => none
def mtD (f : Mt) (o : D) (xs : List D) : Option D := match o, xs with
  | .str s, [x] => mt1D f s x
  | _, _ => none
def isID (x : D) (t : Ty) : Bool := match x, t with
  | .bool _, .bool => true | .bool _, .int => true
  | .int _, .int => true
  | .str _, .str => true
  | .list _, .list => true | .rol _, .list => true
  | .tup _, .tuple => true
  | _, _ => false

def datas : List W → Option (List D)
  | [] => some []
  | .d x :: ws => (datas ws).map fun r => x :: r
  | .ref _ :: _ => none
/-- the data that a word stands for now -/
def peek (w : W) : M D := fun s => match w with
  | .d x => .ok x s
  | .ref n => match s[n]? with
    | some (.list ws) => match datas ws with
      | some xs => .ok (.list xs) s
      | none => .bad
    | some (.tup _) => .bad
    | some (.frz d) => .ok d s
    | none => .bad
/-- of a cell in the data: nothing is told -/
def skel : W → D
  | .d x => x
  | .ref _ => .non
/-- the top alone -/
def peekS (w : W) : M D := fun s => match w with
  | .d x => .ok x s
  | .ref n => match s[n]? with
    | some (.list ws) => .ok (.list (ws.map skel)) s
    | some (.tup ws) => .ok (.tup (ws.map skel)) s
    | some (.frz d) => .ok d s
    | none => .bad
/-- .. for good: a cell that is met changes no more, nor do the cells in it -/
def freezeN : Nat → W → M D
  | _, .d x => M.pure x
  | 0, .ref _ => M.bad
  | k + 1, .ref n => fun s => match s[n]? with
    | some (.list ws) => ((ws.foldr (fun w r => M.bind (freezeN k w) fun x => M.bind r fun xs => M.pure (x :: xs)) (M.pure [])) s).andThen fun xs s => match s[n]? with
      | some (.list _) => .ok (.list xs) (s.set n (.frz (.list xs)))
      | _ => .bad
    | some (.tup ws) => ((ws.foldr (fun w r => M.bind (freezeN k w) fun x => M.bind r fun xs => M.pure (x :: xs)) (M.pure [])) s).andThen fun xs s => match s[n]? with
      | some (.tup _) => .ok (.tup xs) (s.set n (.frz (.tup xs)))
      | _ => .bad
    | some (.frz d) => .ok d s
    | none => .bad
def freeze (w : W) : M D := freezeN 6 w
def alloc (m : Bool) (x : D) : M W := fun s => match m, x with
  | true, .list xs => .ok (.ref s.length) (s ++ [.list (xs.map .d)])
  | _, x => .ok (.d x) s
def allocL (ws : List W) : M W := fun s => .ok (.ref s.length) (s ++ [.list ws])
def allocT (ws : List W) : M W := fun s => .ok (.ref s.length) (s ++ [.tup ws])
def setVar (i : Nat) (w : W) (ρ : Env) : Env := ρ.set i (some w)
def wipeE (ρ : Env) : List Nat → Env
  | [] => ρ
  | v :: vs => (wipeE ρ vs).set v none
mutual
def bindPt : Pt → W → Env → Option Env
  | .name i, w, ρ => some (setVar i w ρ)
  | .tup ps, .d (.tup xs), ρ => bindPts ps xs ρ
  | .tup _, _, _ => none
def bindPts : List Pt → List D → Env → Option Env
  | [], [], ρ => some ρ
  | p :: ps, x :: xs, ρ => (bindPt p (.d x) ρ).bind (bindPts ps xs)
  | _, _, _ => none
end
def rangeL (lo : Int) (n : Nat) : List D := (List.range n).map fun (k : Nat) => D.int (lo + (k : Int))
def small62 (i : Int) : Bool := decide (-(2 ^ 62) ≤ i ∧ i < 2 ^ 62)
/-- turns of a range with a step -/
def rangeN (i j c : Int) : Nat := (Builtin.Range.rangeSize i j c).toNat
def rangeC (i j c : Int) : List D := (List.range (rangeN i j c)).map fun (k : Nat) => D.int (i + (k : Int) * c)
def rangeD (xs : List D) : Option (List D) := match xs with
  | [.int j] => if small62 j then some (rangeL 0 j.toNat) else none
  | [.int i, .int j] => if small62 i && small62 j then some (rangeL i (j - i).toNat) else none
  | [.int i, .int j, .int c] => if decide (c ≠ 0) && decide (c.natAbs < 1073741824) && Builtin.Range.small i j c && decide (0 ≤ Builtin.Range.rangeSize i j c) then some (rangeC i j c) else none
  | _ => none
def enumL (xs : List D) : List D := xs.zipIdx.map fun p => .tup [.int (p.2 : Int), p.1]
def zipL (xs ys : List D) : List D := (xs.zip ys).map fun p => .tup [p.1, p.2]
/-- what a for walks, of data -/
def walkD : D → Option (List D)
  | .list xs => some xs | .rol xs => some xs | .tup xs => some xs
  | .str s => if fits s.length then some (s.map fun c => .str [c]) else none
  | _ => none

/-- the block of a comprehension over what is left of the items; the outcome's list, the last first -/
def lcLoop {β : Type} (body : D → M (Option β)) : List D → List β → M (List β)
  | [], acc => fun s => .ok acc.reverse s
  | x :: xs, acc => fun s => match body x s with
    | .ok none s => lcLoop body xs acc s
    | .ok (some y) s => if decide (acc.length < 16777216) then lcLoop body xs (y :: acc) s else .bad
    | _ => .bad
/-- what a statement comes to -/
inductive SR where
  | ok (f : Flow) (ρ : Env) (s : Store) | bad
def exS {α : Type} (r : Res α) (ρ : Env) (k : α → Store → SR) : SR := match r with
  | .ok a s => k a s
  | .exc c d s => .ok (.exc c d) ρ s
  | .bad => .bad
def forLoop (body : D → Env → Store → SR) : List D → Env → Store → SR
  | [], ρ, s => .ok .next ρ s
  | x :: xs, ρ, s => match body x ρ s with
    | .ok .next ρ s => forLoop body xs ρ s
    | .ok .cont ρ s => forLoop body xs ρ s
    | .ok .brk ρ s => .ok .next ρ s
    | r => r
def whileLoop (test : Env → M Bool) (body : Env → Store → SR) : Nat → Env → Store → SR
  | 0, _, _ => .bad
  | n + 1, ρ, s => exS (test ρ s) ρ fun b s => if b then match body ρ s with
      | .ok .next ρ s => whileLoop test body n ρ s
      | .ok .cont ρ s => whileLoop test body n ρ s
      | .ok .brk ρ s => .ok .next ρ s
      | r => r
    else .ok .next ρ s
def freezes : List W → M (List D)
  | [] => M.pure []
  | w :: ws => M.bind (freeze w) fun x => M.bind (freezes ws) fun xs => M.pure (x :: xs)
def peeks : List W → M (List D)
  | [] => M.pure []
  | w :: ws => M.bind (peek w) fun x => M.bind (peeks ws) fun xs => M.pure (x :: xs)
def D.atom : D → Bool
  | .non => true | .bool _ => true | .int _ => true | .str _ => true | _ => false
/-- a call by data alone: its own store; what is handed over is frozen where the answer may hold it -/
def pcall (run : Str → List W → M W) (f : Str) (ws : List W) : M D := fun s => match freezes ws s with
  | .ok xs s1 => match run f (xs.map .d) [] with
    | .ok w st => match freeze w st with
      | .ok x _ => if x.atom then .ok x s else .ok x s1
      | _ => .bad
    | .exc c d _ => .exc c d s1
    | .bad => .bad
  | _ => .bad
def getVar (i : Nat) (ρ : Env) : M W := fun s => match ρ[i]? with
  | some (some w) => .ok w s
  | _ => .bad
def partI : Option D → Option (Option Int)
  | none => some none
  | some (.int i) => some (some i)
  | _ => none
def isStr : D → Bool
  | .str _ => true | _ => false
def guardL (w : W) : M Unit := fun s => match w with
  | .ref n => match s[n]? with
    | some (.list _) => .ok () s
    | _ => .bad
  | _ => .bad
def idxW (w : W) (i : D) : M W := fun s => match w with
  | .d x => match idxD x i with
    | some y => .ok (.d y) s
    | none => .bad
  | .ref n => match s[n]? with
    | some (.list ws) => match i with
      | .int k => match L2.atI ws k with
        | some w => .ok w s
        | none => .bad
      | _ => .bad
    | some (.tup ws) => match i with
      | .int k => match L2.atI ws k with
        | some w => .ok w s
        | none => .bad
      | _ => .bad
    | some (.frz d) => match idxD d i with
      | some y => .ok (.d y) s
      | none => .bad
    | none => .bad
/-- of a list's cell alone -/
def getIx (w : W) (i : D) : M W := fun s => match w with
  | .ref n => match s[n]? with
    | some (.list ws) => match i with
      | .int k => match L2.atI ws k with
        | some w => .ok w s
        | none => .bad
      | _ => .bad
    | _ => .bad
  | _ => .bad
def appendW (w u : W) : M W := fun s => match w with
  | .ref n => match s[n]? with
    | some (.list xs) => if decide (xs.length < 16777216) then .ok (.d .non) (s.set n (.list (xs ++ [u]))) else .bad
    | _ => .bad
  | _ => .bad
def extend (w : W) (x : D) : M W := fun s => match w, x with
  | .ref n, .list ys => match s[n]? with
    | some (.list xs) => if fits (xs.length + ys.length) then .ok (.d .non) (s.set n (.list (xs ++ ys.map .d))) else .bad
    | _ => .bad
  | _, _ => .bad
/-- where a slice's bounds lie in the list -/
def setSl (o : W) (lo hi : D) (x : D) : M Unit := fun s => match o, lo, hi, x with
  | .ref n, .int a, .int b, .list ys => match s[n]? with
    | some (.list xs) => if decide (0 ≤ a) && decide (a ≤ b) && decide (b ≤ xs.length) && fits (xs.length + ys.length) then .ok () (s.set n (.list (xs.take a.toNat ++ ys.map .d ++ xs.drop b.toNat))) else .bad
    | _ => .bad
  | _, _, _, _ => .bad
def append (w : W) (x : D) : M W := fun s => match w with
  | .ref n => match s[n]? with
    | some (.list xs) => if decide (xs.length < 16777216) then .ok (.d .non) (s.set n (.list (xs ++ [.d x]))) else .bad
    | _ => .bad
  | _ => .bad
def setIx (o : W) (i : D) (x : D) : M Unit := fun s => match o, i with
  | .ref n, .int k => match s[n]? with
    | some (.list xs) => match L2.ixN xs.length k with
      | some j => .ok () (s.set n (.list (xs.set j (.d x))))
      | none => .bad
    | _ => .bad
  | _, _ => .bad
structure Glob where
  val : Str → Option D

section
variable (run : Str → List W → M W) (gl : Str → Option D)
def fmtD : D → Option (List Nat)
  | .str s => if fits s.length then some s else none
  | .int i => strOfInt i
  | _ => none
def strD : D → Option (List Nat)
  | .str s => some s
  | _ => none
def catC (acc : List Nat) (x : List Nat) : M (List Nat) := fun s => if fits (acc.length + x.length) then .ok (acc ++ x) s else .bad
def revD (x : D) : Option D := match x with
  | .str s => if fits s.length then some (.str s.reverse) else none
  | .list xs => some (.list xs.reverse)
  | .rol xs => some (.list xs.reverse)
  | _ => none
structure Sm where
  v : Env → M W
  t : Env → M Bool
  i : Env → M (List D)
def vT (v : Env → M W) (ρ : Env) : M Bool := M.bind (v ρ) fun w => M.bind (peekS w) fun x => lift (truth x)
def vI (v : Env → M W) (ρ : Env) : M (List D) := M.bind (v ρ) fun w => M.bind (freeze w) fun x => lift (walkD x)
def ofV (v : Env → M W) : Sm := ⟨v, vT v, vI v⟩
def smL : List Sm → Env → M (List W)
  | [], _ => M.pure []
  | e :: es, ρ => M.bind (e.v ρ) fun w => M.bind (smL es ρ) fun ws => M.pure (w :: ws)
def smT : List Sm → Env → M Bool
  | [], _ => M.pure true
  | e :: es, ρ => M.bind (e.t ρ) fun t => if t then smT es ρ else M.pure false
def smF : List Sm → List Nat → Env → M (List Nat)
  | [], acc, _ => M.pure acc
  | e :: es, acc, ρ => M.bind (e.v ρ) fun w => M.bind (peek w) fun x => M.bind (lift (strD x)) fun s => M.bind (catC acc s) fun acc => smF es acc ρ
def partW (w : W) : M (Option Int) := M.bind (peek w) fun x => match x with
  | .int i => M.pure (some i)
  | _ => M.bad
def lcBody (tg : Pt) (cs : List Sm) (elt : Sm) (ρ : Env) (x : D) : M (Option D) :=
  M.bind (lift (bindPt tg (.d x) ρ)) fun ρ1 => M.bind (smT cs ρ1) fun t =>
    if t then M.bind (elt.v ρ1) fun w => M.bind (freeze w) fun y => M.pure (some y) else M.pure none
def lcBodyW (tg : Pt) (cs : List Sm) (elt : Sm) (ρ : Env) (x : D) : M (Option W) :=
  M.bind (lift (bindPt tg (.d x) ρ)) fun ρ1 => M.bind (smT cs ρ1) fun t =>
    if t then M.bind (elt.v ρ1) fun w => M.pure (some w) else M.pure none
mutual
def sem : E → Sm
  | .bad => ofV fun _ => M.bad
  | .nil => ofV fun _ => M.bad
  | .var i => ofV fun ρ => getVar i ρ
  | .glob x => ofV fun _ => M.bind (lift (gl x)) fun d => M.pure (.d d)
  | .con d => ofV fun _ => M.pure (.d d)
  | .tup es => ofV fun ρ => M.bind (smL (sems es) ρ) fun ws => M.bind (freezes ws) fun xs => M.bind (guard (fits xs.length)) fun _ => M.pure (.d (.tup xs))
  | .list m es => ofV fun ρ => M.bind (smL (sems es) ρ) fun ws => M.bind (freezes ws) fun xs => M.bind (guard (fits xs.length)) fun _ => alloc m (.list xs)
  | .listw es => ofV fun ρ => M.bind (smL (sems es) ρ) fun ws => M.bind (guard (fits ws.length)) fun _ => allocL ws
  | .tupw es => ofV fun ρ => M.bind (smL (sems es) ρ) fun ws => M.bind (guard (fits ws.length)) fun _ => allocT ws
  | .bin m op a b => ofV fun ρ => M.bind ((sem a).v ρ) fun x => M.bind ((sem b).v ρ) fun y => M.bind (peek x) fun x => M.bind (peek y) fun y => M.bind (lift (binD op x y)) fun z => alloc m z
  | .un op a => ofV fun ρ => M.bind ((sem a).v ρ) fun x => M.bind (peek x) fun x => M.bind (lift (unD op x)) fun z => M.pure (.d z)
  | .cmp op a b => ofV fun ρ => M.bind ((sem a).v ρ) fun x => M.bind ((sem b).v ρ) fun y => M.bind (peek x) fun x => M.bind (peek y) fun y => M.bind (lift (cmpD op x y)) fun z => M.pure (.d (.bool z))
  | .cmp2 op op2 a b c => ofV fun ρ => M.bind ((sem a).v ρ) fun x => M.bind ((sem b).v ρ) fun y => M.bind (peek x) fun x => M.bind (peek y) fun y' => M.bind (lift (cmpD op x y')) fun z =>
      if z then M.bind ((sem c).v ρ) fun w => M.bind (peek y) fun y => M.bind (peek w) fun w => M.bind (lift (cmpD op2 y w)) fun z => M.pure (.d (.bool z)) else M.pure (.d (.bool false))
  | .and a b => { v := fun ρ => M.bind ((sem a).v ρ) fun x => M.bind (peekS x) fun d => M.bind (lift (truth d)) fun t => if t then (sem b).v ρ else M.pure x
                  t := fun ρ => M.bind ((sem a).t ρ) fun t => if t then (sem b).t ρ else M.pure false
                  i := fun _ => M.bad }
  | .or a b => { v := fun ρ => M.bind ((sem a).v ρ) fun x => M.bind (peekS x) fun d => M.bind (lift (truth d)) fun t => if t then M.pure x else (sem b).v ρ
                 t := fun ρ => M.bind ((sem a).t ρ) fun t => if t then M.pure true else (sem b).t ρ
                 i := fun _ => M.bad }
  | .not a => { v := fun ρ => M.bind ((sem a).v ρ) fun x => M.bind (peekS x) fun d => M.bind (lift (truth d)) fun t => M.pure (.d (.bool (!t)))
                t := fun ρ => M.bind ((sem a).t ρ) fun t => M.pure (!t)
                i := fun _ => M.bad }
  | .ite c a b => { ofV (fun ρ => M.bind ((sem c).t ρ) fun t => if t then (sem a).v ρ else (sem b).v ρ) with t := fun ρ => M.bind ((sem c).t ρ) fun t => if t then (sem a).t ρ else (sem b).t ρ }
  | .idx a i => ofV fun ρ => M.bind ((sem a).v ρ) fun x => M.bind ((sem i).v ρ) fun y => M.bind (peek y) fun y => idxW x y
  | .slice m bl bh a lo hi => ofV fun ρ => M.bind ((sem a).v ρ) fun x => M.bind (if bl then M.bind ((sem lo).v ρ) partW else M.pure none) fun l => M.bind (if bh then M.bind ((sem hi).v ρ) partW else M.pure none) fun h =>
      M.bind (peek x) fun x => M.bind (lift (sliceD x l h)) fun z => alloc m z
  | .rev a => ofV fun ρ => M.bind ((sem a).v ρ) fun x => M.bind (peek x) fun x => M.bind (lift (revD x)) fun z => alloc false z
  | .call m f es => ofV fun ρ => M.bind (smL (sems es) ρ) fun ws => if m then run f ws else M.bind (pcall run f ws) fun z => M.pure (.d z)
  | .bi m f es => ofV fun ρ => M.bind (smL (sems es) ρ) fun ws => M.bind (peeks ws) fun xs => M.bind (lift (biD f xs)) fun z => alloc m z
  | .mt m f o es => ofV fun ρ => M.bind ((sem o).v ρ) fun x => M.bind (peek x) fun x0 => M.bind (guard (isStr x0)) fun _ => M.bind (smL (sems es) ρ) fun ws => M.bind (peek x) fun x => M.bind (peeks ws) fun xs => M.bind (lift (mtD f x xs)) fun z => alloc m z
  | .app o e => ofV fun ρ => M.bind ((sem o).v ρ) fun x => M.bind (guardL x) fun _ => M.bind ((sem e).v ρ) fun w => M.bind (freeze w) fun y => append x y
  | .appw o e => ofV fun ρ => M.bind ((sem o).v ρ) fun x => M.bind (guardL x) fun _ => M.bind ((sem e).v ρ) fun w => appendW x w
  | .ext o e => ofV fun ρ => M.bind ((sem o).v ρ) fun x => M.bind (guardL x) fun _ => M.bind ((sem e).v ρ) fun w => M.bind (peek w) fun y => extend x y
  | .len a => ofV fun ρ => M.bind ((sem a).v ρ) fun x => M.bind (peekS x) fun x => M.bind (lift (lenD x)) fun n => M.pure (.d (.int (n : Int)))
  | .gcd a b => ofV fun ρ => M.bind ((sem a).v ρ) fun x => M.bind ((sem b).v ρ) fun y => M.bind (peek x) fun x => M.bind (peek y) fun y => M.bind (lift (gcdD x y)) fun z => M.pure (.d z)
  | .repl o y z => ofV fun ρ => M.bind ((sem o).v ρ) fun x => M.bind (peek x) fun x => M.bind (lift (repD y z x)) fun z => M.pure (.d z)
  | .isN neg a => ofV fun ρ => M.bind ((sem a).v ρ) fun x => M.bind (peekS x) fun x => M.pure (.d (.bool (isNon x != neg)))
  | .range es => { ofV (fun _ => M.bad) with i := fun ρ => M.bind (smL (sems es) ρ) fun ws => M.bind (peeks ws) fun xs => lift (rangeD xs) }
  | .enum a => { ofV (fun _ => M.bad) with i := fun ρ => M.bind ((sem a).v ρ) fun w => M.bind (freeze w) fun x => match x with
      | .list xs => M.pure (enumL xs)
      | _ => M.bad }
  | .zip a b => { ofV (fun _ => M.bad) with i := fun ρ => M.bind ((sem a).v ρ) fun w => M.bind ((sem b).v ρ) fun u => M.bind (freeze w) fun x => M.bind (freeze u) fun y => match x, y with
      | .list xs, .list ys => M.pure (zipL xs ys)
      | _, _ => M.bad }
  | .lc m elt tg it cs own => ofV fun ρ => M.bind ((sem it).i ρ) fun xs => M.bind (lcLoop (lcBody tg (sems cs) (sem elt) (wipeE ρ own)) xs []) fun ys => alloc m (.list ys)
  | .lcw elt tg it cs own => ofV fun ρ => M.bind ((sem it).i ρ) fun xs => M.bind (lcLoop (lcBodyW tg (sems cs) (sem elt) (wipeE ρ own)) xs []) fun ws => allocL ws
  | .lenSC elt tg it cs own => ofV fun ρ => M.bind ((sem it).i ρ) fun xs => M.bind (lcLoop (lcBody tg (sems cs) (sem elt) (wipeE ρ own)) xs []) fun ys => M.bind (lift (lenSet ys)) fun z => M.pure (.d z)
  | .fs es => ofV fun ρ => M.bind (smF (sems es) [] ρ) fun s => M.pure (.d (.str s))
  | .fmt a => ofV fun ρ => M.bind ((sem a).v ρ) fun x => M.bind (peek x) fun x => M.bind (lift (fmtD x)) fun s => M.pure (.d (.str s))
  | .isI a t => ofV fun ρ => M.bind ((sem a).v ρ) fun x => M.bind (peekS x) fun x => M.pure (.d (.bool (isID x t)))
def sems : List E → List Sm
  | [] => []
  | e :: es => sem e :: sems es
end
def evE (e : E) (ρ : Env) : M W := (sem run gl e).v ρ
def evT (e : E) (ρ : Env) : M Bool := (sem run gl e).t ρ
def evI (e : E) (ρ : Env) : M (List D) := (sem run gl e).i ρ
def noFuel : Nat := 1000000000
def augD (op : Operator) (x y : D) : Option D := match x, y with
  | .int a, .int b => match op with
    | .Pow => none
    | op => (intBin op a b).map .int
  | .str a, .str b => match op with
    | .Add => if fits (a.length + b.length) then some (.str (a ++ b)) else none
    | _ => none
  | _, _ => none
mutual
def hxD (g : Str) (y : D) : HX → Option D
  | .con z => some z
  | .fld f => if f = g then some y else none
  | .tup es => (hxDs g y es).bind fun ys => if fits ys.length then some (.tup ys) else none
def hxDs (g : Str) (y : D) : List HX → Option (List D)
  | [] => some []
  | e :: es => (hxD g y e).bind fun z => (hxDs g y es).map fun zs => z :: zs
end
/-- what an except suite does with the exception -/
def catchS (c : Str) (i : Nat) (h : HX) (x : Str) (d : Option (Str × D)) (ρ : Env) (s : Store) : SR := match d with
  | some (g, y) => if x = c ∧ i < ρ.length then (match hxD g y h with | some z => .ok (.ret (.d z)) ρ s | none => .bad) else .bad
  | none => .bad
def asgS (o : Option Env) (s : Store) : SR := match o with
  | some ρ => .ok .next ρ s
  | none => .bad
def forBody (p : Pt) (b : Env → Store → SR) (x : D) (ρ : Env) (s : Store) : SR := match bindPt p (.d x) ρ with
  | some ρ => b ρ s
  | none => .bad
mutual
def evS : S → Env → Store → SR
  | .bad, _, _ => .bad
  | .asg p e, ρ, s => exS (evE run gl e ρ s) ρ fun w s => asgS (bindPt p w ρ) s
  | .asgIx o i e, ρ, s => exS (M.bind (evE run gl e ρ) (fun w => M.bind (evE run gl o ρ) fun x => M.bind (evE run gl i ρ) fun y => M.bind (freeze w) fun w => M.bind (peek y) fun y => setIx x y w) s) ρ fun _ s => .ok .next ρ s
  | .asgSl o lo hi e, ρ, s => exS (M.bind (evE run gl e ρ) (fun w => M.bind (evE run gl o ρ) fun x => M.bind (evE run gl lo ρ) fun y => M.bind (evE run gl hi ρ) fun z => M.bind (freeze w) fun w => M.bind (peek y) fun y => M.bind (peek z) fun z => setSl x y z w) s) ρ fun _ s => .ok .next ρ s
  | .augIx op o i e, ρ, s => exS (M.bind (evE run gl o ρ) (fun x => M.bind (evE run gl i ρ) fun y => M.bind (peek y) fun y => M.bind (getIx x y) fun u => M.bind (evE run gl e ρ) fun w => M.bind (peek u) fun u => M.bind (peek w) fun w => M.bind (lift (augD op u w)) fun z => setIx x y z) s) ρ fun _ s => .ok .next ρ s
  | .par2 i j a b, ρ, s => exS (M.bind (evE run gl a ρ) (fun x => M.bind (evE run gl b ρ) fun y => M.pure (x, y)) s) ρ fun p s => .ok .next (setVar j p.2 (setVar i p.1 ρ)) s
  | .par3 i j k a b c, ρ, s => exS (M.bind (evE run gl a ρ) (fun x => M.bind (evE run gl b ρ) fun y => M.bind (evE run gl c ρ) fun z => M.pure (x, y, z)) s) ρ fun p s => .ok .next (setVar k p.2.2 (setVar j p.2.1 (setVar i p.1 ρ))) s
  | .raise c f e, ρ, s => exS (M.bind (evE run gl e ρ) (fun w => M.bind (freeze w) fun y => M.pure y) s) ρ fun y s => .ok (.exc c (some (f, y))) ρ s
  | .tryAs b c i h, ρ, s => match evSs b ρ s with
    | .ok (.exc x d) ρ s => catchS c i h x d ρ s
    | r => r
  | .aug i op e, ρ, s => exS (M.bind (getVar i ρ) (fun x => M.bind (evE run gl e ρ) fun y => M.bind (peek x) fun x => M.bind (peek y) fun y => lift (augD op x y)) s) ρ fun z s => .ok .next (setVar i (.d z) ρ) s
  | .expr e, ρ, s => exS (evE run gl e ρ s) ρ fun _ s => .ok .next ρ s
  | .ret e, ρ, s => exS (evE run gl e ρ s) ρ fun w s => .ok (.ret w) ρ s
  | .ite c a b, ρ, s => exS (evT run gl c ρ s) ρ fun t s => if t then evSs a ρ s else evSs b ρ s
  | .while c b, ρ, s => whileLoop (evT run gl c) (evSs b) noFuel ρ s
  | .for p it b, ρ, s => exS (evI run gl it ρ s) ρ fun xs s => forLoop (forBody p (evSs b)) xs ρ s
  | .pass, ρ, s => .ok .next ρ s
  | .brk, ρ, s => .ok .brk ρ s
  | .cont, ρ, s => .ok .cont ρ s
def evSs : List S → Env → Store → SR
  | [], ρ, s => .ok .next ρ s
  | st :: ss, ρ, s => match evS st ρ s with
    | .ok .next ρ s => evSs ss ρ s
    | r => r
end
end
/-- a def: how many parameters, how many names, its body -/
structure Fn where
  np : Nat
  nn : Nat
  body : List S
  deriving Inhabited
structure Prog where
  fn : Str → Option Fn
  gl : Str → Option D
def startE (n : Nat) (ws : List W) : Env := ws.map some ++ List.replicate (n - ws.length) none
def retR : SR → Res W
  | .ok (.ret w) _ s => .ok w s
  | .ok .next _ s => .ok (.d .non) s
  | .ok (.exc c d) _ s => .exc c d s
  | _ => .bad
def run (Γ : Prog) : Nat → Str → List W → M W
  | 0, _, _ => M.bad
  | n + 1, f, ws => match Γ.fn f with
    | none => M.bad
    | some fd => if decide (ws.length = fd.np) then fun s => retR (evSs (run Γ n) Γ.gl fd.body (startE fd.nn ws) s) else M.bad
end Cr

namespace Cr
open PySem
structure CC where
  N : List Str
  fn : Str → Bool
  gl : Str → Bool
  /-- names of the def that hold cells -/
  mv : Str → Nat
  /-- what the def hands back: 0 data, 1 a cell of data, more: a cell with cells -/
  rm : Nat
  /-- defs that are called with cells, or that hand back cells -/
  im : Str → Bool
  /-- own exceptions with a field -/
  ex : Str → Option Str
  /-- gcd is math's -/
  gcd : Bool
def glob? (sc : Scope) (x : Str) : Bool := sc.names.lookup x == some .globalImplicit && !(x == ("__debug__" : Str)) && !(x == ("__name__" : Str))
def slot? (c : CC) (sc : Scope) (x : Str) : Option Nat := match sc.names.lookup x with
  | some .local | some .cell | some .free => if x == ("__debug__" : Str) || x == ("__classdict__" : Str) then none else c.N.idxOf? x
  | _ => none
def isSlice : Expr → Bool
  | .Slice .. => true
  | _ => false
def isStar : Expr → Bool
  | .Starred .. => true
  | _ => false
def isSuper : Expr → Bool
  | .Call (.Name id _) [] [] _ => id == ("super" : Str)
  | _ => false
def isComp : Expr → Bool
  | .ListComp .. => true | .SetComp .. => true | .DictComp .. => true | _ => false
def conD : Const → Option D
  | .none => some .non
  | .bool b => some (.bool b)
  | .int i => some (.int i)
  | .str s => some (.str s.cps.toList)
  | _ => none
def biOf (f : Str) (n : Nat) : Option Bi :=
  if f == "all" && n == 1 then some .all else if f == "any" && n == 1 then some .any
  else if f == "int" && n == 1 then some .int else if f == "str" && n == 1 then some .str else if f == "list" && n == 1 then some .list
  else if f == "abs" && n == 1 then some .abs else if f == "max" && n == 2 then some .max else if f == "min" && n == 2 then some .min
  else if f == "sum" && n == 1 then some .sum else if f == "tuple" && n == 1 then some .tuple
  else if f == "max" && n == 1 then some .maxL else if f == "min" && n == 1 then some .minL else if f == "sorted" && n == 1 then some .sorted else none
def mtOf (f : Str) (n : Nat) : Option Mt :=
  if f == "join" && n == 1 then some .join else if f == "split" && n == 1 then some .split else if f == "index" && n == 1 then some .index
  else if f == "find" && n == 1 then some .find else if f == "startswith" && n == 1 then some .startswith else none
def tyOf (f : Str) : Option Ty :=
  if f == "bool" then some .bool else if f == "int" then some .int else if f == "str" then some .str else if f == "list" then some .list else if f == "tuple" then some .tuple else none
def relSc (scope sc : Scope) : Scope := L2.relS scope sc
def compPt (c : CC) (sc : Scope) : Nat → Expr → Option Pt
  | 0, _ => none
  | n + 1, e => match e with
    | .Name x _ => (slot? c sc x).bind fun i => match sc.names.lookup x with
        | some .local | some .cell => some (.name i)
        | _ => none
    | .Tuple es _ _ => (es.mapM (compPt c sc n)).map .tup
    | _ => none
def ptSlots : Nat → Pt → List Nat
  | 0, _ => []
  | n + 1, p => match p with
    | .name i => [i]
    | .tup ps => ps.flatMap (ptSlots n)
def andE : List E → E
  | [] => .bad
  | [e] => e
  | e :: es => .and e (andE es)
def orE : List E → E
  | [] => .bad
  | [e] => e
  | e :: es => .or e (orE es)
def noStar (es : List Expr) : Bool := es.all fun e => !isStar e
def isTupE : Expr → Bool
  | .Tuple .. => true
  | _ => false
/-- what gives pairs wants a tuple's target -/
def walkOk (tg : Expr) : Expr → Bool
  | .Call (.Name f _) _ _ _ => isTupE tg || !(f == ("enumerate" : Str) || f == ("zip" : Str))
  | .Set .. => false
  | _ => true
/-- a built-in type's name -/
def tyE (c : CC) (sc : Scope) : Expr → Option Ty
  | .Name t _ => if glob? sc t && !c.fn t then tyOf t else none
  | _ => none
def ownOf (c : CC) (scope : Scope) : List (Str × Nat) := scope.names.filterMap fun y => if y.2 == .local || y.2 == .cell then (c.N.idxOf? y.1).map fun i => (y.1, i) else none
def isM1 : Expr → Bool
  | .UnaryOp .USub (.Constant (.int i) _ _) _ => decide (i = 1)
  | _ => false
def isNone : Expr → Bool
  | .Constant .none _ _ => true
  | _ => false
def isLit : Expr → Bool
  | .Constant (.int _) _ _ => true
  | .Constant (.str _) _ _ => true
  | _ => false
/-- e.replace of two written texts -/
def asRepl : Expr → Option (Expr × List Nat × List Nat)
  | .Call (.Attribute o f ap) [.Constant (.str y) _ _, .Constant (.str z) _ _] [] cp => if f == "replace" && ap.endLine == cp.line && !isSuper o && !(y == z) then some (o, y.cps.toList, z.cps.toList) else none
  | _ => none
/-- a row of expressions; behind a written number or text a token is out -/
def compL (f : Expr → E) : Bool → List Expr → List E
  | _, [] => []
  | t, e :: es => (match t, asRepl e with
    | true, some (o, y, z) => .repl (f o) y z
    | _, _ => f e) :: compL f (t || isLit e) es
/-- the mode of what is appended to a list -/
def itemMode (c : CC) : Expr → Nat
  | .Name x _ => c.mv x - 1
  | _ => 0
/-- m: 0 the value is data; 1 a cell of data; more: a cell with cells -/
def compE (c : CC) : Nat → Scope → Nat → Expr → E
  | 0, _, _, _ => .bad
  | n + 1, sc, m, e => match e with
    | .Name x _ => match slot? c sc x with
      | some i => .var i
      | none => if glob? sc x && c.gl x then .glob x else .bad
    | .Constant k _ _ => match conD k with
      | some d => .con d
      | none => .bad
    | .Tuple es _ _ => if noStar es then (if m = 0 then .tup (compL (compE c n sc 0) false es) else .tupw (es.map (compE c n sc (m - 1)))) else .bad
    | .List es _ => if noStar es then (if m ≤ 1 then .list (m != 0) (compL (compE c n sc 0) false es) else .listw (es.map (compE c n sc (m - 1)))) else .bad
    | .BinOp a op b _ => .bin (m != 0) op (compE c n sc 0 a) (compE c n sc 0 b)
    | .UnaryOp .Not a _ => .not (compE c n sc 0 a)
    | .UnaryOp op a _ => .un op (compE c n sc 0 a)
    | .Compare a [op] [b] _ => if isNone b && (op == .Is || op == .IsNot) then .isN (op == .IsNot) (compE c n sc 0 a) else if behindInMarks op b then .bad else .cmp op (compE c n sc 0 a) (compE c n sc 0 b)
    | .Compare a [op, op2] [b, d] _ => if behindInMarks op2 d then .bad else .cmp2 op op2 (compE c n sc 0 a) (compE c n sc 0 b) (compE c n sc 0 d)
    | .BoolOp .And es _ => if decide (2 ≤ es.length) then andE (es.map (compE c n sc 0)) else .bad
    | .BoolOp .Or es _ => if decide (2 ≤ es.length) then orE (es.map (compE c n sc 0)) else .bad
    | .IfExp t a b _ => .ite (compE c n sc 0 t) (compE c n sc m a) (compE c n sc m b)
    | .Subscript a i _ => match i with
      | .Slice lo hi st _ => match st with
        | none => .slice (m != 0) lo.isSome hi.isSome (compE c n sc 0 a) (match lo with | none => .nil | some e => compE c n sc 0 e) (match hi with | none => .nil | some e => compE c n sc 0 e)
        | some s => if isM1 s && lo.isNone && hi.isNone then .rev (compE c n sc 0 a) else .bad
      | i => .idx (compE c n sc 0 a) (compE c n sc 0 i)
    | .JoinedStr es _ => if noStar es && decide (2 ≤ es.length) then .fs (es.map (compE c n sc 0)) else .bad
    | .FormattedValue e cv sp _ => if decide (cv = -1) && sp.isNone then .fmt (compE c n sc 0 e) else .bad
    | .ListComp elt gens scope _ => match gens with
      | [⟨tg, it, cs, isa⟩] => match compPt c scope 5 tg with
        | some p => if L2.blkC c.N sc scope (ownOf c scope) && walkOk tg it && decide (cs.length ≤ 1) && decide (isa = 0) && (ptSlots 5 p).all fun i => ((ownOf c scope).map (·.2)).contains i then
            (if m ≤ 1 then .lc (m != 0) (compE c n (relSc scope sc) 0 elt) p (compE c n sc 0 it) (cs.map (compE c n (relSc scope sc) 0)) ((ownOf c scope).map (·.2))
            else .lcw (compE c n (relSc scope sc) (m - 1) elt) p (compE c n sc 0 it) (cs.map (compE c n (relSc scope sc) 0)) ((ownOf c scope).map (·.2))) else .bad
        | none => .bad
      | _ => .bad
    | .Call fn es kw cp => match kw with
      | _ :: _ => .bad
      | [] => match fn with
        | .Name f _ =>
          if !(glob? sc f && noStar es) then .bad
          else if c.fn f then .call (m != 0 || c.im f) f (compL (compE c n sc 0) false es)
          else if f == "range" then (if decide (es.length ≤ 3) then .range (es.map (compE c n sc 0)) else .bad)
          else if f == "isinstance" then match es with
            | [a, t] => match tyE c sc t with
              | some t => .isI (compE c n sc 0 a) t
              | none => .bad
            | _ => .bad
          else if f == "enumerate" then match es with
            | [a] => .enum (compE c n sc 0 a)
            | _ => .bad
          else if f == "zip" then match es with
            | [a, b] => .zip (compE c n sc 0 a) (compE c n sc 0 b)
            | _ => .bad
          else if f == "gcd" then match es with
            | [a, b] => if c.gcd then .gcd (compE c n sc 0 a) (compE c n sc 0 b) else .bad
            | _ => .bad
          else if f == "len" then match es with
            | [.SetComp elt [⟨tg, it, cs, isa⟩] scope _] => match compPt c scope 5 tg with
              | some p => if L2.blkC c.N sc scope (ownOf c scope) && walkOk tg it && decide (cs.length ≤ 1) && decide (isa = 0) && (ptSlots 5 p).all fun i => ((ownOf c scope).map (·.2)).contains i then
                  .lenSC (compE c n (relSc scope sc) 0 elt) p (compE c n sc 0 it) (cs.map (compE c n (relSc scope sc) 0)) ((ownOf c scope).map (·.2)) else .bad
              | none => .bad
            | [a] => .len (compE c n sc 0 a)
            | _ => .bad
          else match biOf f es.length with
            | some b => .bi (m != 0) b (es.map (compE c n sc 0))
            | none => .bad
        | .Attribute o f ap =>
          if !(noStar es && ap.endLine == cp.line && !isSuper o) then .bad
          else match es with
            | [a] => if f == "append" then (if itemMode c o = 0 then .app (compE c n sc 0 o) (compE c n sc 0 a) else .appw (compE c n sc 0 o) (compE c n sc (itemMode c o) a))
              else if f == "extend" then .ext (compE c n sc 0 o) (compE c n sc 0 a) else match mtOf f 1 with
              | some b => .mt (m != 0) b (compE c n sc 0 o) [compE c n sc 0 a]
              | none => .bad
            | _ => .bad
        | _ => .bad
    | _ => .bad
def fuel : Nat := 40
def isTup : Expr → Bool
  | .Tuple .. => true
  | _ => false
def stepNames (scope : Scope) (t : Str) : Bool := scope.names.any fun (n, k) => n == t && (k == .local || k == .cell)
/-- where the names of the comprehension and the target's are exchanged -/
def lcSwap (sc scope : Scope) (x : Str) (tp ep : Pos) : Bool := sc.names.lookup x == some .local && tp.line == ep.line && !stepNames scope x
def compName (c : CC) (sc : Scope) (tg : Expr) (x : Str) (tp : Pos) (e : Expr) : S := match compPt c sc 5 tg with
  | some p => match e with
    | .SetComp .. => .bad
    | .DictComp .. => .bad
    | .ListComp _ _ scope ep => if lcSwap sc scope x tp ep then .asg p (compE c fuel sc (c.mv x) e) else .bad
    | e => .asg p (compE c fuel sc (c.mv x) e)
  | none => .bad
/-- a plain local name's slot -/
def locSlot (c : CC) (sc : Scope) (x : Str) : Option Nat := if sc.names.lookup x == some .local then slot? c sc x else none
def isFun (sc : Scope) : Bool := match sc.kind with
  | .function => true
  | _ => false
def isLocN (sc : Scope) : Expr → Bool
  | .Name x _ => sc.names.lookup x == some .local
  | _ => false
/-- a, b = x, y and a, b, c = x, y, z; e is the tuple -/
def compPar (c : CC) (sc : Scope) (tg e : Expr) (es vs : List Expr) : S :=
  if !(isFun sc && noStar vs) then .bad
  else if vs.all (foldedForSure 8) || es.any (fun t => !isLocN sc t) then (match compPt c sc 5 tg with
    | some p => .asg p (compE c fuel sc 0 e)
    | none => .bad)
  else if vs.all (constantsAlone 8) then .bad
  else match es, vs with
  | [.Name x px, .Name y py], [a, b] => match locSlot c sc x, locSlot c sc y with
    | some i, some j => if decide (i ≠ j) && decide (x ≠ y) && decide (py.line = px.line) then .par2 i j (compE c fuel sc (c.mv x) a) (compE c fuel sc (c.mv y) b) else .bad
    | _, _ => .bad
  | [.Name x px, .Name y py, .Name z pz], [a, b, d] => match locSlot c sc x, locSlot c sc y, locSlot c sc z with
    | some i, some j, some k => if decide (i ≠ j) && decide (i ≠ k) && decide (j ≠ k) && decide (x ≠ y) && decide (x ≠ z) && decide (y ≠ z) && decide (py.line = px.line) && decide (pz.line = px.line) then .par3 i j k (compE c fuel sc (c.mv x) a) (compE c fuel sc (c.mv y) b) (compE c fuel sc (c.mv z) d) else .bad
    | _, _, _ => .bad
  | _, _ => .bad
def compAsg (c : CC) (sc : Scope) (e tg : Expr) : S := match tg with
  | .Name x tp => compName c sc (.Name x tp) x tp e
  | .Subscript o i _ => if isComp e then .bad else match i with
    | .Slice lo hi st _ => match lo, hi, st with
      | some lo, some hi, none => .asgSl (compE c fuel sc 0 o) (compE c fuel sc 0 lo) (compE c fuel sc 0 hi) (compE c fuel sc 0 e)
      | _, _, _ => .bad
    | i => .asgIx (compE c fuel sc 0 o) (compE c fuel sc 0 i) (compE c fuel sc 0 e)
  | .Tuple es j tp => if isTup e then (match e with
      | .Tuple vs k2 p2 => compPar c sc (.Tuple es j tp) (.Tuple vs k2 p2) es vs
      | _ => .bad) else if isComp e then .bad else match compPt c sc 5 (.Tuple es j tp) with
    | some p => .asg p (compE c fuel sc 0 e)
    | none => .bad
  | _ => .bad
/-- what an except suite may say: return of constants, the caught one's fields, tuples of such -/
def compH (c : CC) (nm fx : Str) : Nat → Expr → Option HX
  | 0, _ => none
  | n + 1, e => match e with
    | .Constant k _ _ => (conD k).map .con
    | .Attribute (.Name x _) f _ => if x == nm && f == fx then some (.fld f) else none
    | .Tuple es _ _ => if noStar es then (es.mapM (compH c nm fx n)).map .tup else none
    | _ => none
def compTry (c : CC) (sc : Scope) (b : List S) (ty : Option Expr) (nm : Option Str) (body : List Stmt) : S := match ty, nm, body with
  | some (.Name x _), some y, [.Return (some e) _] => match locSlot c sc y, c.ex x with
    | some i, some fx => match compH c y fx 3 e with
      | some h => if glob? sc x then .tryAs b x i h else .bad
      | none => .bad
    | _, _ => .bad
  | _, _, _ => .bad
def compS (c : CC) (sc : Scope) : Nat → Stmt → S
  | 0, _ => .bad
  | n + 1, st => match st with
    | .Assign tgs e _ => match tgs with
      | [tg] => compAsg c sc e tg
      | _ => .bad
    | .AugAssign tg op e _ => match tg with
      | .Name x _ => match locSlot c sc x with
        | some i => .aug i op (compE c fuel sc 0 e)
        | none => .bad
      | .Subscript o i _ => if isSlice i then .bad else .augIx op (compE c fuel sc 0 o) (compE c fuel sc 0 i) (compE c fuel sc 0 e)
      | _ => .bad
    | .Raise r cause _ => match r, cause with
      | some (.Call (.Name x _) [e] [] _), none => match c.ex x with
        | some f => if glob? sc x && !isStar e then .raise x f (compE c fuel sc 0 e) else .bad
        | none => .bad
      | _, _ => .bad
    | .Try b hs el fin _ => match hs, el, fin with
      | [.ExceptHandler ty nm body _], [], [] => compTry c sc (b.map (compS c sc n)) ty nm body
      | _, _, _ => .bad
    | .Expr e _ => if isComp e then .bad else .expr (compE c fuel sc 0 e)
    | .Return r _ => match r with
      | some e => .ret (compE c fuel sc c.rm e)
      | none => .ret (.con .non)
    | .If t a b _ => .ite (compE c fuel sc 0 t) (a.map (compS c sc n)) (b.map (compS c sc n))
    | .While t b el _ => match el with
      | [] => .while (compE c fuel sc 0 t) (b.map (compS c sc n))
      | _ => .bad
    | .For tg it b el _ => match el with
      | [] => if walkOk tg it then match compPt c sc 5 tg with
          | some p => .for p (compE c fuel sc 0 it) (b.map (compS c sc n))
          | none => .bad
        else .bad
      | _ => .bad
    | .Pass _ => .pass
    | .Break _ => .brk
    | .Continue _ => .cont
    | _ => .bad
/-- names that a body changes in place -/
def mutNames : Nat → Stmt → List Str
  | 0, _ => []
  | n + 1, st => match st with
    | .Assign [.Subscript (.Name x _) _ _] _ _ => [x]
    | .Expr (.Call (.Attribute (.Name x _) f _) _ _ _) _ => if f == "append" || f == "extend" || f == "pop" || f == "update" then [x] else []
    | .If _ a b _ => a.flatMap (mutNames n) ++ b.flatMap (mutNames n)
    | .While _ a _ _ => a.flatMap (mutNames n)
    | .For _ _ a _ _ => a.flatMap (mutNames n)
    | _ => []
def argNames (a : Arguments) : List Str := a.args.map (·.arg)
/-- what a def's text tells, beside the names of the whole program -/
def slotsOf (st : Stmt) : List Str :=
  let a := argNames (L2.defArgs st)
  a ++ ((L2.defScope st).names.filterMap fun y => if (y.2 == .local || y.2 == .cell || y.2 == .free) && !a.contains y.1 then some y.1 else none)
end Cr

namespace Cr
open PySem L2
abbrev KF := PySem.W.Frag

def Ex (H H' : Hp) : Prop := ∀ a o, H a = some o → H' a = some o
theorem Ex.refl (H : Hp) : Ex H H := fun _ _ h => h
theorem Ex.trans {H H1 H2 : Hp} (a : Ex H H1) (b : Ex H1 H2) : Ex H H2 := fun x o h => b x o (a x o h)
theorem Ex.new {H : Hp} {p : Addr} {o : HO} (h : H p = none) : Ex H (upd H p o) := fun a u e => by
  rw [upd_ne (ne_of_none e h)]
  exact e
theorem Ex.rd {H H' : Hp} {a : Addr} {u : HO} (e : Ex H H') (h : Rd H a u) : Rd H' a u := by
  rcases h with h | ⟨o, h⟩
  · exact Or.inl (e a _ h)
  · exact Or.inr ⟨o, e a _ h⟩
theorem Ex.sql {K : KF} {H H' : Hp} {a : Addr} {xs : List V} (e : Ex H H') (h : SqL K H a xs) : SqL K H' a xs := by
  rcases h with h | h
  · exact Or.inl (e.rd h)
  · exact Or.inr h
theorem Ex.sqt {K : KF} {H H' : Hp} {a : Addr} {xs : List V} (e : Ex H H') (h : SqT K H a xs) : SqT K H' a xs := by
  rcases h with h | h
  · exact Or.inl (e.rd h)
  · exact Or.inr h

mutual
/-- a value, of data that stands for good -/
inductive Den (K : KF) (B : Hp) : D → V → Prop
  | non : Den K B .non .non
  | bool (b : Bool) : Den K B (.bool b) (.bl b)
  | int (i : Int) : Den K B (.int i) (.int i)
  | str (s : List Nat) : Den K B (.str s) (.str ⟨s.toArray⟩)
  | list {a : Addr} {xs : List D} {vs : List V} : B a = some (.lst vs) → DenL K B xs vs → Den K B (.list xs) (.ref a)
  | tup {a : Addr} {xs : List D} {vs : List V} : B a = some (.tup vs) → DenL K B xs vs → Den K B (.tup xs) (.ref a)
  | rol {a : Addr} {xs : List D} {vs : List V} : SqL K B a vs → DenL K B xs vs → Den K B (.rol xs) (.ref a)
inductive DenL (K : KF) (B : Hp) : List D → List V → Prop
  | nil : DenL K B [] []
  | cons {x : D} {xs : List D} {v : V} {vs : List V} : Den K B x v → DenL K B xs vs → DenL K B (x :: xs) (v :: vs)
end
mutual
theorem Den.mono {K : KF} {B B' : Hp} (e : Ex B B') : ∀ {x : D} {v : V}, Den K B x v → Den K B' x v
  | _, _, .non => .non
  | _, _, .bool b => .bool b
  | _, _, .int i => .int i
  | _, _, .str s => .str s
  | _, _, .list h l => .list (e _ _ h) (DenL.mono e l)
  | _, _, .tup h l => .tup (e _ _ h) (DenL.mono e l)
  | _, _, .rol h l => .rol (e.sql h) (DenL.mono e l)
theorem DenL.mono {K : KF} {B B' : Hp} (e : Ex B B') : ∀ {xs : List D} {vs : List V}, DenL K B xs vs → DenL K B' xs vs
  | _, _, .nil => .nil
  | _, _, .cons h l => .cons (Den.mono e h) (DenL.mono e l)
end
theorem DenL.length {K : KF} {B : Hp} : ∀ {xs : List D} {vs : List V}, DenL K B xs vs → xs.length = vs.length
  | _, _, .nil => rfl
  | _, _, .cons _ l => congrArg (· + 1) (DenL.length l)
theorem DenL.get {K : KF} {B : Hp} : ∀ {xs : List D} {vs : List V} {i : Nat} {x : D}, DenL K B xs vs → xs[i]? = some x → ∃ v, vs[i]? = some v ∧ Den K B x v
  | _, _, i, x, .nil, e => by simp at e
  | _, _, 0, x, .cons h _, e => by
    simp at e
    subst e
    exact ⟨_, rfl, h⟩
  | _, _, i + 1, x, .cons _ l, e => by
    obtain ⟨v, h1, h2⟩ := DenL.get (i := i) (x := x) l (by simpa using e)
    exact ⟨v, by simpa using h1, h2⟩
theorem DenL.append {K : KF} {B : Hp} : ∀ {xs ys : List D} {vs ws : List V}, DenL K B xs vs → DenL K B ys ws → DenL K B (xs ++ ys) (vs ++ ws)
  | _, _, _, _, .nil, r => r
  | _, _, _, _, .cons h l, r => .cons h (DenL.append l r)
theorem DenL.drop {K : KF} {B : Hp} : ∀ {xs : List D} {vs : List V} (n : Nat), DenL K B xs vs → DenL K B (xs.drop n) (vs.drop n)
  | _, _, 0, r => r
  | _, _, _ + 1, .nil => .nil
  | _, _, n + 1, .cons _ l => DenL.drop n l
theorem DenL.take {K : KF} {B : Hp} : ∀ {xs : List D} {vs : List V} (n : Nat), DenL K B xs vs → DenL K B (xs.take n) (vs.take n)
  | _, _, 0, _ => .nil
  | _, _, _ + 1, .nil => .nil
  | _, _, n + 1, .cons h l => .cons h (DenL.take n l)
theorem DenL.set {K : KF} {B : Hp} {x : D} {v : V} (h : Den K B x v) : ∀ {xs : List D} {vs : List V} (i : Nat), DenL K B xs vs → DenL K B (xs.set i x) (vs.set i v)
  | _, _, _, .nil => .nil
  | _, _, 0, .cons _ l => .cons h l
  | _, _, i + 1, .cons q l => .cons q (DenL.set h i l)
theorem DenL.rep {K : KF} {B : Hp} {xs : List D} {vs : List V} (h : DenL K B xs vs) : ∀ k : Nat, DenL K B (List.replicate k xs).flatten (List.replicate k vs).flatten
  | 0 => .nil
  | k + 1 => by
    rw [List.replicate_succ, List.replicate_succ, List.flatten_cons, List.flatten_cons]
    exact h.append (DenL.rep h k)

/-- what stands for good, where the cells lie, what they hold -/
structure Cfg where
  B : Hp
  pl : List Addr
  st : Store
def WDen (K : KF) (c : Cfg) : W → V → Prop
  | .d x, v => Den K c.B x v
  | .ref n, v => ∃ a, c.pl[n]? = some a ∧ v = .ref a
inductive WDenL (K : KF) (c : Cfg) : List W → List V → Prop
  | nil : WDenL K c [] []
  | cons {x : W} {xs : List W} {v : V} {vs : List V} : WDen K c x v → WDenL K c xs vs → WDenL K c (x :: xs) (v :: vs)
/-- what stands in the heap for a cell that may change -/
def CellHo (K : KF) (c : Cfg) : Cell → HO → Prop
  | .list ws, o => ∃ vs, o = .lst vs ∧ WDenL K c ws vs
  | .tup ws, o => ∃ vs, o = .tup vs ∧ WDenL K c ws vs
  | .frz _, _ => False
def CellOk (K : KF) (c : Cfg) (H : Hp) (a : Addr) : Cell → Prop
  | .frz d => Den K c.B d (.ref a)
  | cell => c.B a = none ∧ ∃ o, H a = some o ∧ CellHo K c cell o
structure Ok (K : KF) (c : Cfg) (H : Hp) : Prop where
  sub : Ex c.B H
  len : c.pl.length = c.st.length
  nd : c.pl.Nodup
  cells : ∀ (n : Nat) (a : Addr) (cell : Cell), c.pl[n]? = some a → c.st[n]? = some cell → CellOk K c H a cell
  own : ∀ a : Addr, a ∈ c.pl → H a ≠ none
/-- from one state to a later one -/
structure Ext (c : Cfg) (H : Hp) (c' : Cfg) (H' : Hp) : Prop where
  exB : Ex c.B c'.B
  pre : ∃ more, c'.pl = c.pl ++ more ∧ ∀ a ∈ more, H a = none
  there : ∀ a, H a ≠ none → H' a ≠ none
  frame : ∀ a o, H a = some o → c.B a = none → a ∉ c.pl → H' a = some o ∧ c'.B a = none
variable {K : KF} {c c1 c2 : Cfg} {H H1 H2 : Hp}
theorem Ext.refl (c : Cfg) (H : Hp) : Ext c H c H := ⟨Ex.refl _, ⟨[], by simp, by simp⟩, fun _ h => h, fun _ _ h1 h2 _ => ⟨h1, h2⟩⟩
theorem Ext.trans (o1 : Ok K c1 H1) (a : Ext c H c1 H1) (b : Ext c1 H1 c2 H2) : Ext c H c2 H2 := by
  obtain ⟨m1, e1, f1⟩ := a.pre
  obtain ⟨m2, e2, f2⟩ := b.pre
  refine ⟨a.exB.trans b.exB, ⟨m1 ++ m2, by rw [e2, e1, List.append_assoc], fun x hx => ?_⟩, fun x h => b.there x (a.there x h), fun x o h1 h2 h3 => ?_⟩
  · rcases List.mem_append.mp hx with h | h
    · exact f1 x h
    · cases e : H x with
      | none => rfl
      | some o => exact absurd (f2 x h) (a.there x (by rw [e]; simp))
  · obtain ⟨q1, q2⟩ := a.frame x o h1 h2 h3
    refine b.frame x o q1 q2 ?_
    rw [e1]
    intro hx
    rcases List.mem_append.mp hx with h | h
    · exact h3 h
    · rw [f1 x h] at h1
      cases h1
theorem Ext.ix (e : Ext c H c1 H1) {n : Nat} {a : Addr} (h : c.pl[n]? = some a) : c1.pl[n]? = some a := by
  obtain ⟨m, e, _⟩ := e.pre
  rw [e, List.getElem?_append_left (List.getElem?_eq_some_iff.mp h).1]
  exact h
theorem WDen.mono (e : Ext c H c1 H1) {w : W} {v : V} (h : WDen K c w v) : WDen K c1 w v := by
  cases w with
  | d x => exact Den.mono e.exB h
  | ref n =>
    obtain ⟨a, h1, h2⟩ := h
    exact ⟨a, e.ix h1, h2⟩
theorem WDenL.mono (e : Ext c H c1 H1) : ∀ {xs : List W} {vs : List V}, WDenL K c xs vs → WDenL K c1 xs vs
  | _, _, .nil => .nil
  | _, _, .cons h l => .cons (h.mono e) (WDenL.mono e l)
theorem WDenL.append : ∀ {xs ys : List W} {vs us : List V}, WDenL K c xs vs → WDenL K c ys us → WDenL K c (xs ++ ys) (vs ++ us)
  | _, _, _, _, .nil, r => r
  | _, _, _, _, .cons h l, r => .cons h (WDenL.append l r)
theorem WDenL.length : ∀ {xs : List W} {vs : List V}, WDenL K c xs vs → xs.length = vs.length
  | _, _, .nil => rfl
  | _, _, .cons _ l => congrArg (· + 1) (WDenL.length l)

theorem WDen.grow {c c' : Cfg} (e : Ex c.B c'.B) (p : ∃ more, c'.pl = c.pl ++ more) {w : W} {v : V} (h : WDen K c w v) : WDen K c' w v := by
  cases w with
  | d x => exact Den.mono e h
  | ref n =>
    obtain ⟨a, h1, h2⟩ := h
    obtain ⟨m, p⟩ := p
    exact ⟨a, by rw [p, List.getElem?_append_left (List.getElem?_eq_some_iff.mp h1).1]; exact h1, h2⟩
theorem WDenL.grow {c c' : Cfg} (e : Ex c.B c'.B) (p : ∃ more, c'.pl = c.pl ++ more) : ∀ {xs : List W} {vs : List V}, WDenL K c xs vs → WDenL K c' xs vs
  | _, _, .nil => .nil
  | _, _, .cons h l => .cons (h.grow e p) (WDenL.grow e p l)
theorem CellHo.grow {c c' : Cfg} (e : Ex c.B c'.B) (p : ∃ more, c'.pl = c.pl ++ more) {cell : Cell} {o : HO} (h : CellHo K c cell o) : CellHo K c' cell o := by
  cases cell with
  | list ws =>
    obtain ⟨vs, h1, h2⟩ := h
    exact ⟨vs, h1, h2.grow e p⟩
  | tup ws =>
    obtain ⟨vs, h1, h2⟩ := h
    exact ⟨vs, h1, h2.grow e p⟩
  | frz d => exact h
def Cell.live : Cell → Bool
  | .frz _ => false
  | _ => true
theorem CellOk.live {c : Cfg} {a : Addr} {cell : Cell} (h : CellOk K c H a cell) (l : cell.live = true) : c.B a = none ∧ ∃ o, H a = some o ∧ CellHo K c cell o := by
  cases cell with
  | frz d => cases l
  | _ => exact h
theorem CellOk.of {c : Cfg} {a : Addr} {cell : Cell} {o : HO} (h1 : c.B a = none) (h2 : H a = some o) (h3 : CellHo K c cell o) : CellOk K c H a cell := by
  cases cell with
  | frz d => exact h3.elim
  | _ => exact ⟨h1, o, h2, h3⟩
/-- elsewhere a cell stays what it is -/
theorem CellOk.grow {c c' : Cfg} {H H' : Hp} {a : Addr} {cell : Cell} (h : CellOk K c H a cell) (e : Ex c.B c'.B) (p : ∃ more, c'.pl = c.pl ++ more) (hb : c.B a = none → c'.B a = none) (hh : ∀ o, c.B a = none → H a = some o → H' a = some o) : CellOk K c' H' a cell := by
  cases cell with
  | frz d => exact Den.mono e h
  | list ws =>
    obtain ⟨h1, o, h2, h3⟩ := h
    exact ⟨hb h1, o, hh o h1 h2, CellHo.grow e p h3⟩
  | tup ws =>
    obtain ⟨h1, o, h2, h3⟩ := h
    exact ⟨hb h1, o, hh o h1 h2, CellHo.grow e p h3⟩
theorem new_data {p : Addr} {o : HO} (k : Ok K c H) (hp : H p = none) : Ok K ⟨upd c.B p o, c.pl, c.st⟩ (upd H p o) ∧ Ext c H ⟨upd c.B p o, c.pl, c.st⟩ (upd H p o) := by
  have bp : c.B p = none := by
    cases e : c.B p with
    | none => rfl
    | some u => rw [k.sub p u e] at hp; cases hp
  have eB : Ex c.B (upd c.B p o) := Ex.new bp
  have eH : Ex H (upd H p o) := Ex.new hp
  refine ⟨⟨fun a u h => ?_, k.len, k.nd, fun n a cell h1 h2 => ?_, fun a ha => ?_⟩, ⟨eB, ⟨[], by simp, by simp⟩, fun a h => ?_, fun a u h1 h2 h3 => ?_⟩⟩
  · have h : upd c.B p o a = some u := h
    by_cases e : a = p
    · subst e
      rw [upd_same] at h ⊢
      exact h
    · rw [upd_ne e] at h ⊢
      exact k.sub a u h
  · have ha : H a ≠ none := k.own a (List.mem_of_getElem? h1)
    have ne : a ≠ p := fun e => ha (e ▸ hp)
    exact (k.cells n a cell h1 h2).grow (by exact eB) (by exact ⟨[], by simp⟩) (fun q => by show upd c.B p o a = none; rw [upd_ne ne]; exact q) (fun u _ q => by rw [upd_ne ne]; exact q)
  · have := k.own a ha
    cases e : H a with
    | none => exact absurd e this
    | some u => rw [eH a u e]; simp
  · cases e : H a with
    | none => exact absurd e h
    | some u => rw [eH a u e]; simp
  · have ne : a ≠ p := ne_of_none h1 hp
    exact ⟨eH a u h1, by show upd c.B p o a = none; rw [upd_ne ne]; exact h2⟩
theorem new_cell {p : Addr} {cell : Cell} {o : HO} (k : Ok K c H) (hp : H p = none) (hx : CellHo K c cell o) :
    Ok K ⟨c.B, c.pl ++ [p], c.st ++ [cell]⟩ (upd H p o) ∧ Ext c H ⟨c.B, c.pl ++ [p], c.st ++ [cell]⟩ (upd H p o) := by
  have bp : c.B p = none := by
    cases e : c.B p with
    | none => rfl
    | some u => rw [k.sub p u e] at hp; cases hp
  have eH : Ex H (upd H p o) := Ex.new hp
  have np : p ∉ c.pl := fun h => k.own p h hp
  refine ⟨⟨fun a u h => eH a u (k.sub a u h), by simp [k.len], ?_, fun n a cel h1 h2 => ?_, fun a ha => ?_⟩, ⟨Ex.refl _, ⟨[p], rfl, by simp [hp]⟩, fun a h => ?_, fun a u h1 h2 h3 => ⟨eH a u h1, h2⟩⟩⟩
  · show (c.pl ++ [p]).Nodup
    rw [List.nodup_append]
    refine ⟨k.nd, by simp, fun a ha b hb e => ?_⟩
    have : b = p := by simpa using hb
    subst this
    exact np (e ▸ ha)
  · have h1 : (c.pl ++ [p])[n]? = some a := h1
    have h2 : (c.st ++ [cell])[n]? = some cel := h2
    by_cases hn : n < c.pl.length
    · rw [List.getElem?_append_left hn] at h1
      rw [List.getElem?_append_left (k.len ▸ hn)] at h2
      have ha : H a ≠ none := k.own a (List.mem_of_getElem? h1)
      have ne : a ≠ p := fun e => ha (e ▸ hp)
      exact (k.cells n a cel h1 h2).grow (by exact Ex.refl c.B) (by exact ⟨[p], rfl⟩) (fun q => q) (fun u _ q => by rw [upd_ne ne]; exact q)
    · rw [List.getElem?_append_right (by omega)] at h1
      rw [List.getElem?_append_right (by have := k.len; omega)] at h2
      have e1 : n - c.pl.length = 0 := by
        have := (List.getElem?_eq_some_iff.mp h1).1
        simpa using this
      have e2 : n - c.st.length = 0 := by rw [← k.len]; exact e1
      rw [e1] at h1
      rw [e2] at h2
      have h1 : p = a := by simpa using h1
      have h2 : cell = cel := by simpa using h2
      subst h1
      subst h2
      exact CellOk.of bp upd_same (CellHo.grow (by exact Ex.refl c.B) (by exact ⟨[p], rfl⟩) hx)
  · rcases List.mem_append.mp ha with h | h
    · have := k.own a h
      cases e : H a with
      | none => exact absurd e this
      | some u => rw [eH a u e]; simp
    · have : a = p := by simpa using h
      subst this
      rw [upd_same]
      simp
  · cases e : H a with
    | none => exact absurd e h
    | some u => rw [eH a u e]; simp
theorem Ok.other {n m : Nat} {a b : Addr} (k : Ok K c H) (hi : c.pl[n]? = some a) (h1 : c.pl[m]? = some b) (e : m ≠ n) : b ≠ a := fun z => e (by
  subst z
  obtain ⟨l1, e1⟩ := List.getElem?_eq_some_iff.mp h1
  obtain ⟨l2, e2⟩ := List.getElem?_eq_some_iff.mp hi
  exact (List.getElem_inj k.nd).mp (e1.trans e2.symm))
/-- a cell is written -/
theorem put_cell {n : Nat} {a : Addr} {old cell : Cell} {o : HO} (k : Ok K c H) (hi : c.pl[n]? = some a) (hs : c.st[n]? = some old) (hl : old.live = true) (hy : CellHo K c cell o) :
    Ok K ⟨c.B, c.pl, c.st.set n cell⟩ (upd H a o) ∧ Ext c H ⟨c.B, c.pl, c.st.set n cell⟩ (upd H a o) := by
  obtain ⟨b0, u0, h0, d0⟩ := (k.cells n a _ hi hs).live hl
  have hm : a ∈ c.pl := List.mem_of_getElem? hi
  have there : ∀ b, H b ≠ none → upd H a o b ≠ none := fun b h => by
    by_cases e : b = a
    · subst e
      rw [upd_same]
      simp
    · rw [upd_ne e]
      exact h
  refine ⟨⟨fun b u h => ?_, by simp [k.len], k.nd, fun m b cel h1 h2 => ?_, fun b hb => there b (k.own b hb)⟩, ⟨Ex.refl _, ⟨[], by simp, by simp⟩, there, fun b u h1 h2 h3 => ⟨?_, h2⟩⟩⟩
  · have ne : b ≠ a := fun e => by
      subst e
      rw [show c.B b = some u from h] at b0
      cases b0
    rw [upd_ne ne]
    exact k.sub b u h
  · have h1 : c.pl[m]? = some b := h1
    have h2 : (c.st.set n cell)[m]? = some cel := h2
    by_cases e : m = n
    · subst e
      rw [hi] at h1
      cases h1
      rw [List.getElem?_set_self (List.getElem?_eq_some_iff.mp hs).1] at h2
      cases h2
      exact CellOk.of b0 upd_same (CellHo.grow (by exact Ex.refl c.B) (by exact ⟨[], by simp⟩) hy)
    · rw [List.getElem?_set_ne (Ne.symm e)] at h2
      have ne := k.other hi h1 e
      exact (k.cells m b cel h1 h2).grow (by exact Ex.refl c.B) (by exact ⟨[], by simp⟩) (fun q => q) (fun u _ q => by rw [upd_ne ne]; exact q)
  · have ne : b ≠ a := fun e => h3 (e ▸ hm)
    rw [upd_ne ne]
    exact h1
/-- a cell is frozen: d is what it stands for, given its object for good -/
theorem frz_cell {n : Nat} {a : Addr} {old : Cell} {d : D} {o : HO} (k : Ok K c H) (hi : c.pl[n]? = some a) (hs : c.st[n]? = some old) (hl : old.live = true) (hu : H a = some o) (du : Den K (upd c.B a o) d (.ref a)) :
    Ok K ⟨upd c.B a o, c.pl, c.st.set n (.frz d)⟩ H ∧ Ext c H ⟨upd c.B a o, c.pl, c.st.set n (.frz d)⟩ H := by
  obtain ⟨b0, _, _, _⟩ := (k.cells n a _ hi hs).live hl
  have hm : a ∈ c.pl := List.mem_of_getElem? hi
  have eB : Ex c.B (upd c.B a o) := Ex.new b0
  refine ⟨⟨fun b u h => ?_, by simp [k.len], k.nd, fun m b cel h1 h2 => ?_, k.own⟩, ⟨eB, ⟨[], by simp, by simp⟩, fun _ h => h, fun b u h1 h2 h3 => ⟨h1, ?_⟩⟩⟩
  · have h : upd c.B a o b = some u := h
    by_cases e : b = a
    · subst e
      rw [upd_same] at h
      cases h
      exact hu
    · rw [upd_ne e] at h
      exact k.sub b u h
  · have h1 : c.pl[m]? = some b := h1
    have h2 : (c.st.set n (Cell.frz d))[m]? = some cel := h2
    by_cases e : m = n
    · subst e
      rw [hi] at h1
      cases h1
      rw [List.getElem?_set_self (List.getElem?_eq_some_iff.mp hs).1] at h2
      cases h2
      exact du
    · rw [List.getElem?_set_ne (Ne.symm e)] at h2
      have ne := k.other hi h1 e
      exact (k.cells m b cel h1 h2).grow (by exact eB) (by exact ⟨[], by simp⟩) (fun q => by show upd c.B a o b = none; rw [upd_ne ne]; exact q) (fun u _ q => q)
  · have ne : b ≠ a := fun e => h3 (e ▸ hm)
    show upd c.B a o b = none
    rw [upd_ne ne]
    exact h2
end Cr

namespace Cr
open PySem L2

def XR (K : KF) (mg : Str → Option Value) (B : Hp) (x : Str) (d : Option (Str × D)) (cls : Value) (da : Option Addr) : Prop :=
  ∃ C, cls = .ref C ∧ mg x = some (.ref C) ∧ match d with
    | none => da = none
    | some (f, y) => ∃ a v, da = some a ∧ B a = some (.xd [(f, v)]) ∧ Den K B y v
abbrev EK := Value → Option Addr → Hp → Prop
/-- R: how the outcome shows -/
def Post {α β : Type} (K : KF) (mg : Str → Option Value) (c : Cfg) (H : Hp) (r : Res α) (R : Cfg → Hp → α → β → Prop) (Q : β → Hp → Prop) (E : EK) : Prop := match r with
  | .ok a st => ∀ c' H' b, c'.st = st → Ext c H c' H' → Ok K c' H' → R c' H' a b → Q b H'
  | .exc x d st => ∀ c' H' cls da, c'.st = st → Ext c H c' H' → Ok K c' H' → XR K mg c'.B x d cls da → E cls da H'
  | .bad => False
def ERel (K : KF) (c : Cfg) (ρ : Env) (σ : L2.St) : Prop := ρ.length = σ.length ∧ ∀ (i : Nat) (w : W), ρ[i]? = some (some w) → ∃ v, σ[i]? = some (some v) ∧ WDen K c w v

section
variable {K : KF} {mg : Str → Option Value} {c c1 : Cfg} {H H1 : Hp} {α β γ : Type} {σ : L2.St} {ρ : Env}
theorem ERel.mono (e : Ext c H c1 H1) (h : ERel K c ρ σ) : ERel K c1 ρ σ := ⟨h.1, fun i w q => by
  obtain ⟨v, h1, h2⟩ := h.2 i w q
  exact ⟨v, h1, h2.mono e⟩⟩
theorem Post.later {r : Res α} {R : Cfg → Hp → α → β → Prop} {Q : β → Hp → Prop} {E : EK} (o : Ok K c1 H1) (e : Ext c H c1 H1) (h : Post K mg c H r R Q E) : Post K mg c1 H1 r R Q E := by
  cases r with
  | ok a st => exact fun c' H' b h1 h2 h3 h4 => h c' H' b h1 (Ext.trans o e h2) h3 h4
  | exc x d st => exact fun c' H' cls da h1 h2 h3 h4 => h c' H' cls da h1 (Ext.trans o e h2) h3 h4
  | bad => exact h
theorem Post.imp {r : Res α} {R : Cfg → Hp → α → β → Prop} {Q Q' : β → Hp → Prop} {E : EK} (h : Post K mg c H r R Q E) (q : ∀ b H', Q b H' → Q' b H') : Post K mg c H r R Q' E := by
  cases r with
  | ok a st => exact fun c' H' b h1 h2 h3 h4 => q _ _ (h c' H' b h1 h2 h3 h4)
  | exc x d st => exact h
  | bad => exact h
/-- the outcome, shown here and now -/
theorem Post.now {a : α} {b : β} {R : Cfg → Hp → α → β → Prop} {Q : β → Hp → Prop} {E : EK} (o : Ok K c H) (h : Post K mg c H (.ok a c.st) R Q E) (r : R c H a b) : Q b H := h c H b rfl (Ext.refl c H) o r

/-- a reading by an outcome -/
def tG (K : KF) (mg : Str → Option Value) (Wx : WX) (m : Env → M α) (R : Cfg → Hp → α → β → Prop) : L2.St → Hp → (β → Hp → Prop) → Prop := fun σ H Q =>
  ∃ c ρ, Ok K c H ∧ ERel K c ρ σ ∧ Post K mg c H (m ρ c.st) R Q (fun cls da H' => Wx cls da σ H')
theorem tG.imp {Wx : WX} {m : Env → M α} {R : Cfg → Hp → α → β → Prop} {Q Q' : β → Hp → Prop} (h : tG K mg Wx m R σ H Q) (q : ∀ b H', Q b H' → Q' b H') : tG K mg Wx m R σ H Q' := by
  obtain ⟨c, ρ, o, e, p⟩ := h
  exact ⟨c, ρ, o, e, p.imp q⟩
/-- first m, then k -/
theorem tG.bind {Wx : WX} {δ : Type} {m : Env → M α} {k : α → M γ} {R1 : Cfg → Hp → α → β → Prop} {R : Cfg → Hp → γ → δ → Prop} {Q : δ → Hp → Prop} {E : EK} (o : Ok K c H) (e : ERel K c ρ σ) (hE : E = fun cls da H' => Wx cls da σ H')
    (h : Post K mg c H (M.bind (m ρ) k c.st) R Q E) :
    tG K mg Wx m R1 σ H fun b H1 => ∃ c1 a, Ext c H c1 H1 ∧ Ok K c1 H1 ∧ ERel K c1 ρ σ ∧ R1 c1 H1 a b ∧ Post K mg c1 H1 (k a c1.st) R Q E := by
  subst hE
  refine ⟨c, ρ, o, e, ?_⟩
  show Post K mg c H (m ρ c.st) _ _ _
  have h : Post K mg c H ((m ρ c.st).andThen k) R Q _ := h
  generalize m ρ c.st = r at h
  cases r with
  | ok a st =>
    intro c' H' b h1 h2 h3 h4
    subst h1
    exact ⟨c', a, h2, h3, e.mono h2, h4, Post.later h3 h2 h⟩
  | exc x d st => exact h
  | bad => exact h
/-- .. and how m ended -/
theorem tG.bindE {Wx : WX} {δ : Type} {m : Env → M α} {k : α → M γ} {R1 : Cfg → Hp → α → β → Prop} {R : Cfg → Hp → γ → δ → Prop} {Q : δ → Hp → Prop} {E : EK} (o : Ok K c H) (e : ERel K c ρ σ) (hE : E = fun cls da H' => Wx cls da σ H')
    (h : Post K mg c H (M.bind (m ρ) k c.st) R Q E) :
    tG K mg Wx m R1 σ H fun b H1 => ∃ c1 a, m ρ c.st = .ok a c1.st ∧ Ext c H c1 H1 ∧ Ok K c1 H1 ∧ ERel K c1 ρ σ ∧ R1 c1 H1 a b ∧ Post K mg c1 H1 (k a c1.st) R Q E := by
  subst hE
  refine ⟨c, ρ, o, e, ?_⟩
  show Post K mg c H (m ρ c.st) _ _ _
  have h : Post K mg c H ((m ρ c.st).andThen k) R Q _ := h
  generalize hr : m ρ c.st = r at h
  cases r with
  | ok a st =>
    intro c' H' b h1 h2 h3 h4
    subst h1
    exact ⟨c', a, rfl, h2, h3, e.mono h2, h4, Post.later h3 h2 h⟩
  | exc x d st => exact h
  | bad => exact h
theorem post_lift {δ : Type} {o : Option α} {k : α → M γ} {R : Cfg → Hp → γ → δ → Prop} {Q : δ → Hp → Prop} {E : EK} (h : Post K mg c H (M.bind (lift o) k c.st) R Q E) : ∃ a, o = some a ∧ Post K mg c H (k a c.st) R Q E := by
  cases o with
  | none => exact h.elim
  | some a => exact ⟨a, rfl, h⟩
theorem post_guard {δ : Type} {b : Bool} {k : Unit → M γ} {R : Cfg → Hp → γ → δ → Prop} {Q : δ → Hp → Prop} {E : EK} (h : Post K mg c H (M.bind (guard b) k c.st) R Q E) : b = true ∧ Post K mg c H (k () c.st) R Q E := by
  cases b with
  | false => exact h.elim
  | true => exact ⟨rfl, h⟩
/-- data as it is seen now: its own object in the heap, its items for good -/
def See (K : KF) (B H : Hp) : D → V → Prop
  | .list xs, v => ∃ a vs, v = .ref a ∧ H a = some (.lst vs) ∧ DenL K B xs vs
  | x, v => Den K B x v
theorem See.of {x : D} {v : V} (o : Ok K c H) (h : Den K c.B x v) : See K c.B H x v := by
  cases h with
  | non => exact .non
  | bool b => exact .bool b
  | int i => exact .int i
  | str s => exact .str s
  | list h l => exact ⟨_, _, rfl, o.sub _ _ h, l⟩
  | tup h l => exact .tup h l
  | rol h l => exact .rol h l
theorem datas_den : ∀ {ws : List W} {vs : List V} {xs : List D}, WDenL K c ws vs → datas ws = some xs → DenL K c.B xs vs
  | [], _, _, .nil, h => by cases h; exact .nil
  | .d x :: ws, _, _, .cons d l, h => by
    obtain ⟨r, h1, rfl⟩ := Option.map_eq_some_iff.mp (show (datas ws).map (fun r => x :: r) = some _ from h)
    exact .cons d (datas_den l h1)
  | .ref _ :: _, _, _, _, h => by cases h
theorem live_list {n : Nat} {a : Addr} {ws : List W} (o : Ok K c H) (h1 : c.pl[n]? = some a) (e : c.st[n]? = some (.list ws)) : c.B a = none ∧ ∃ vs, H a = some (.lst vs) ∧ WDenL K c ws vs := by
  obtain ⟨q1, u, q2, vs, rfl, q3⟩ := (o.cells n a _ h1 e).live rfl
  exact ⟨q1, vs, q2, q3⟩
theorem live_tup {n : Nat} {a : Addr} {ws : List W} (o : Ok K c H) (h1 : c.pl[n]? = some a) (e : c.st[n]? = some (.tup ws)) : c.B a = none ∧ ∃ vs, H a = some (.tup vs) ∧ WDenL K c ws vs := by
  obtain ⟨q1, u, q2, vs, rfl, q3⟩ := (o.cells n a _ h1 e).live rfl
  exact ⟨q1, vs, q2, q3⟩
theorem peek_ref (n : Nat) (s : Store) : peek (.ref n) s = match s[n]? with
    | some (.list ws) => (match datas ws with
      | some xs => .ok (.list xs) s
      | none => .bad)
    | some (.tup _) => .bad
    | some (.frz d) => .ok d s
    | none => .bad := rfl
theorem post_peek {δ : Type} {w : W} {v : V} {k : D → M γ} {R : Cfg → Hp → γ → δ → Prop} {Q : δ → Hp → Prop} {E : EK} (o : Ok K c H) (d : WDen K c w v) (h : Post K mg c H (M.bind (peek w) k c.st) R Q E) :
    ∃ x, See K c.B H x v ∧ Post K mg c H (k x c.st) R Q E := by
  cases w with
  | d x => exact ⟨x, See.of o d, h⟩
  | ref n =>
    obtain ⟨a, h1, rfl⟩ := d
    have h : Post K mg c H ((peek (.ref n) c.st).andThen k) R Q E := h
    rw [peek_ref] at h
    cases e : c.st[n]? with
    | none =>
      rw [e] at h
      exact h.elim
    | some cell =>
      rw [e] at h
      cases cell with
      | tup ws => exact h.elim
      | list ws =>
        obtain ⟨_, vs, q2, q3⟩ := live_list o h1 e
        cases ed : datas ws with
        | none =>
          have h : Post K mg c H ((match datas ws with | some xs => Res.ok (D.list xs) c.st | none => .bad).andThen k) R Q E := h
          rw [ed] at h
          exact h.elim
        | some xs =>
          have h : Post K mg c H ((match datas ws with | some xs => Res.ok (D.list xs) c.st | none => .bad).andThen k) R Q E := h
          rw [ed] at h
          exact ⟨.list xs, ⟨a, vs, rfl, q2, datas_den q3 ed⟩, h⟩
      | frz d => exact ⟨d, See.of o (o.cells n a _ h1 e), h⟩
/-- the top of what is seen -/
def SeeS (K : KF) (B H : Hp) : D → V → Prop
  | .list xs, v => ∃ a vs, v = .ref a ∧ H a = some (.lst vs) ∧ xs.length = vs.length
  | .tup xs, v => ∃ a vs, v = .ref a ∧ H a = some (.tup vs) ∧ xs.length = vs.length
  | x, v => Den K B x v
theorem SeeS.of {x : D} {v : V} (o : Ok K c H) (h : Den K c.B x v) : SeeS K c.B H x v := by
  cases h with
  | non => exact .non
  | bool b => exact .bool b
  | int i => exact .int i
  | str s => exact .str s
  | list h l => exact ⟨_, _, rfl, o.sub _ _ h, l.length⟩
  | tup h l => exact ⟨_, _, rfl, o.sub _ _ h, l.length⟩
  | rol h l => exact .rol h l
theorem peekS_ref (n : Nat) (s : Store) : peekS (.ref n) s = match s[n]? with
    | some (.list ws) => .ok (.list (ws.map skel)) s
    | some (.tup ws) => .ok (.tup (ws.map skel)) s
    | some (.frz d) => .ok d s
    | none => .bad := rfl
theorem post_peekS {δ : Type} {w : W} {v : V} {k : D → M γ} {R : Cfg → Hp → γ → δ → Prop} {Q : δ → Hp → Prop} {E : EK} (o : Ok K c H) (d : WDen K c w v) (h : Post K mg c H (M.bind (peekS w) k c.st) R Q E) :
    ∃ x, SeeS K c.B H x v ∧ Post K mg c H (k x c.st) R Q E := by
  cases w with
  | d x => exact ⟨x, SeeS.of o d, h⟩
  | ref n =>
    obtain ⟨a, h1, rfl⟩ := d
    have h : Post K mg c H ((peekS (.ref n) c.st).andThen k) R Q E := h
    rw [peekS_ref] at h
    cases e : c.st[n]? with
    | none =>
      rw [e] at h
      exact h.elim
    | some cell =>
      rw [e] at h
      cases cell with
      | tup ws =>
        obtain ⟨_, vs, q2, q3⟩ := live_tup o h1 e
        exact ⟨.tup (ws.map skel), ⟨a, vs, rfl, q2, by rw [List.length_map]; exact q3.length⟩, h⟩
      | list ws =>
        obtain ⟨_, vs, q2, q3⟩ := live_list o h1 e
        exact ⟨.list (ws.map skel), ⟨a, vs, rfl, q2, by rw [List.length_map]; exact q3.length⟩, h⟩
      | frz d => exact ⟨d, SeeS.of o (o.cells n a _ h1 e), h⟩
/-- freezing as it is: no word, or data for good -/
def FrzOk (K : KF) (c : Cfg) (H : Hp) (v : V) (r : Res D) : Prop := r = .bad ∨ ∃ c1 x, r = .ok x c1.st ∧ Ext c H c1 H ∧ Ok K c1 H ∧ Den K c1.B x v
abbrev frzItems (k : Nat) (ws : List W) : M (List D) := ws.foldr (fun w r => M.bind (freezeN k w) fun x => M.bind r fun xs => M.pure (x :: xs)) (M.pure [])
theorem freezeN_ref (k n : Nat) (s : Store) : freezeN (k + 1) (.ref n) s = match s[n]? with
    | some (.list ws) => (frzItems k ws s).andThen fun xs s => (match s[n]? with
      | some (.list _) => Res.ok (D.list xs) (s.set n (.frz (.list xs)))
      | _ => .bad)
    | some (.tup ws) => (frzItems k ws s).andThen fun xs s => (match s[n]? with
      | some (.tup _) => Res.ok (D.tup xs) (s.set n (.frz (.tup xs)))
      | _ => .bad)
    | some (.frz d) => .ok d s
    | none => .bad := by
  rw [freezeN]
  all_goals (rfl)
theorem freezeN_ok : ∀ (k : Nat) {w : W} {v : V} {c : Cfg}, Ok K c H → WDen K c w v → FrzOk K c H v (freezeN k w c.st)
  | 0, .d x, _, c, o, d => .inr ⟨c, x, rfl, Ext.refl c H, o, d⟩
  | k + 1, .d x, _, c, o, d => .inr ⟨c, x, rfl, Ext.refl c H, o, d⟩
  | 0, .ref n, _, _, _, _ => .inl rfl
  | k + 1, .ref n, v, c, o, d => by
    obtain ⟨a, h1, rfl⟩ := d
    have items : ∀ (ws : List W) (vs : List V) (c : Cfg), Ok K c H → WDenL K c ws vs → frzItems k ws c.st = .bad ∨
        ∃ c1 xs, frzItems k ws c.st = .ok xs c1.st ∧ Ext c H c1 H ∧ Ok K c1 H ∧ DenL K c1.B xs vs := by
      intro ws
      induction ws with
      | nil =>
        intro vs c o l
        cases l
        exact .inr ⟨c, [], rfl, Ext.refl c H, o, .nil⟩
      | cons w ws ih =>
        intro vs c o l
        cases l with
        | cons dw lw =>
          show ((freezeN k w c.st).andThen fun x s => (frzItems k ws s).andThen fun xs => M.pure (x :: xs)) = _ ∨ ∃ c1 xs, ((freezeN k w c.st).andThen fun x s => (frzItems k ws s).andThen fun xs => M.pure (x :: xs)) = _ ∧ _
          rcases freezeN_ok k o dw with e | ⟨c1, x, e, e1, o1, d1⟩
          · rw [e]; exact .inl rfl
          · rw [e]
            rcases ih _ c1 o1 (lw.mono e1) with q | ⟨c2, xs, q, e2, o2, d2⟩
            · refine .inl ?_
              show (frzItems k ws c1.st).andThen _ = _
              rw [q]; rfl
            · refine .inr ⟨c2, x :: xs, ?_, Ext.trans o1 e1 e2, o2, .cons (Den.mono e2.exB d1) d2⟩
              show (frzItems k ws c1.st).andThen _ = _
              rw [q]; rfl
    rw [freezeN_ref]
    cases e : c.st[n]? with
    | none => exact .inl rfl
    | some cell =>
      cases cell with
      | frz d => exact .inr ⟨c, d, rfl, Ext.refl c H, o, o.cells n a _ h1 e⟩
      | list ws =>
        obtain ⟨_, vs, q2, q3⟩ := live_list o h1 e
        show FrzOk K c H (.ref a) ((frzItems k ws c.st).andThen _)
        rcases items ws vs c o q3 with z | ⟨c1, xs, z, e1, o1, d1⟩
        · rw [z]; exact .inl rfl
        · rw [z]
          show FrzOk K c H (.ref a) (match c1.st[n]? with | some (.list _) => Res.ok (D.list xs) (c1.st.set n (.frz (.list xs))) | _ => .bad)
          cases e2 : c1.st[n]? with
          | none => exact .inl rfl
          | some cell2 =>
            cases cell2 with
            | frz _ => exact .inl rfl
            | tup _ => exact .inl rfl
            | list ws2 =>
              have b0 := (live_list o1 (e1.ix h1) e2).1
              have dn : Den K (upd c1.B a (.lst vs)) (.list xs) (.ref a) := .list upd_same (d1.mono (Ex.new b0))
              obtain ⟨o2, x2⟩ := frz_cell o1 (e1.ix h1) e2 rfl q2 dn
              exact .inr ⟨_, .list xs, rfl, Ext.trans o1 e1 x2, o2, dn⟩
      | tup ws =>
        obtain ⟨_, vs, q2, q3⟩ := live_tup o h1 e
        show FrzOk K c H (.ref a) ((frzItems k ws c.st).andThen _)
        rcases items ws vs c o q3 with z | ⟨c1, xs, z, e1, o1, d1⟩
        · rw [z]; exact .inl rfl
        · rw [z]
          show FrzOk K c H (.ref a) (match c1.st[n]? with | some (.tup _) => Res.ok (D.tup xs) (c1.st.set n (.frz (.tup xs))) | _ => .bad)
          cases e2 : c1.st[n]? with
          | none => exact .inl rfl
          | some cell2 =>
            cases cell2 with
            | frz _ => exact .inl rfl
            | list _ => exact .inl rfl
            | tup ws2 =>
              have b0 := (live_tup o1 (e1.ix h1) e2).1
              have dn : Den K (upd c1.B a (.tup vs)) (.tup xs) (.ref a) := .tup upd_same (d1.mono (Ex.new b0))
              obtain ⟨o2, x2⟩ := frz_cell o1 (e1.ix h1) e2 rfl q2 dn
              exact .inr ⟨_, .tup xs, rfl, Ext.trans o1 e1 x2, o2, dn⟩
theorem post_freeze {δ : Type} {w : W} {v : V} {k : D → M γ} {R : Cfg → Hp → γ → δ → Prop} {Q : δ → Hp → Prop} {E : EK} (o : Ok K c H) (d : WDen K c w v) (h : Post K mg c H (M.bind (freeze w) k c.st) R Q E) :
    ∃ c1 x, Ext c H c1 H ∧ Ok K c1 H ∧ Den K c1.B x v ∧ Post K mg c1 H (k x c1.st) R Q E := by
  have h : Post K mg c H ((freezeN 6 w c.st).andThen k) R Q E := h
  rcases freezeN_ok 6 o d with e | ⟨c1, x, e, e1, o1, d1⟩
  · rw [e] at h
    exact h.elim
  · rw [e] at h
    exact ⟨c1, x, e1, o1, d1, Post.later o1 e1 h⟩
theorem wdenl_of {xs : List D} {vs : List V} (d : DenL K c.B xs vs) : WDenL K c (xs.map .d) vs := by
  induction xs generalizing vs with
  | nil => cases d; exact .nil
  | cons x xs ih => cases d with
    | cons a b => exact .cons a (ih b)
theorem post_freezes {δ : Type} {R : Cfg → Hp → γ → δ → Prop} {Q : δ → Hp → Prop} {E : EK} : ∀ {ws : List W} {vs : List V} {c : Cfg} {k : List D → M γ}, Ok K c H → WDenL K c ws vs → Post K mg c H (M.bind (freezes ws) k c.st) R Q E →
    ∃ c1 xs, Ext c H c1 H ∧ Ok K c1 H ∧ DenL K c1.B xs vs ∧ Post K mg c1 H (k xs c1.st) R Q E
  | [], _, c, k, o, .nil, h => ⟨c, [], Ext.refl c H, o, .nil, h⟩
  | w :: ws, _, c, k, o, .cons d l, h => by
    have assoc : M.bind (freezes (w :: ws)) k c.st = M.bind (freeze w) (fun x => M.bind (freezes ws) fun xs => k (x :: xs)) c.st := by
      show ((freeze w c.st).andThen fun x s => ((freezes ws s).andThen fun xs => M.pure (x :: xs))).andThen k = (freeze w c.st).andThen fun x s => (freezes ws s).andThen fun xs => k (x :: xs)
      cases freeze w c.st with
      | ok x s =>
        show ((freezes ws s).andThen fun xs => M.pure (x :: xs)).andThen k = (freezes ws s).andThen fun xs => k (x :: xs)
        cases freezes ws s <;> rfl
      | exc _ _ _ => rfl
      | bad => rfl
    rw [assoc] at h
    obtain ⟨c1, x, e1, o1, d1, h1⟩ := post_freeze o d h
    obtain ⟨c2, xs, e2, o2, d2, h2⟩ := post_freezes o1 (l.mono e1) h1
    exact ⟨c2, x :: xs, Ext.trans o1 e1 e2, o2, .cons (Den.mono e2.exB d1) d2, h2⟩
inductive SeeL (K : KF) (B H : Hp) : List D → List V → Prop
  | nil : SeeL K B H [] []
  | cons {x : D} {xs : List D} {v : V} {vs : List V} : See K B H x v → SeeL K B H xs vs → SeeL K B H (x :: xs) (v :: vs)
theorem post_peeks {δ : Type} {R : Cfg → Hp → γ → δ → Prop} {Q : δ → Hp → Prop} {E : EK} (o : Ok K c H) : ∀ {ws : List W} {vs : List V} {k : List D → M γ}, WDenL K c ws vs → Post K mg c H (M.bind (peeks ws) k c.st) R Q E →
    ∃ xs, SeeL K c.B H xs vs ∧ Post K mg c H (k xs c.st) R Q E
  | [], _, k, .nil, h => ⟨[], .nil, h⟩
  | w :: ws, _, k, .cons d l, h => by
    have assoc : M.bind (peeks (w :: ws)) k c.st = M.bind (peek w) (fun x => M.bind (peeks ws) fun xs => k (x :: xs)) c.st := by
      show ((peek w c.st).andThen fun x s => ((peeks ws s).andThen fun xs => M.pure (x :: xs))).andThen k = (peek w c.st).andThen fun x s => (peeks ws s).andThen fun xs => k (x :: xs)
      cases peek w c.st with
      | ok x s =>
        show ((peeks ws s).andThen fun xs => M.pure (x :: xs)).andThen k = (peeks ws s).andThen fun xs => k (x :: xs)
        cases peeks ws s <;> rfl
      | exc _ _ _ => rfl
      | bad => rfl
    rw [assoc] at h
    obtain ⟨x, d1, h1⟩ := post_peek o d h
    obtain ⟨xs, d2, h2⟩ := post_peeks o l h1
    exact ⟨x :: xs, .cons d1 d2, h2⟩
/-- the answers' ends -/
abbrev RW (K : KF) : Cfg → Hp → W → V → Prop := fun c _ w v => WDen K c w v
theorem done_d {x : D} {v : V} {Q : VK} {E : EK} (o : Ok K c H) (h : Post K mg c H (M.pure (W.d x) c.st) (RW K) Q E) (d : Den K c.B x v) : Q v H := Post.now o h d
theorem alloc_old {m : Bool} {x : D} {v : V} {Q : VK} {E : EK} (o : Ok K c H) (hx : ∀ xs, x ≠ .list xs) (h : Post K mg c H (alloc m x c.st) (RW K) Q E) (d : Den K c.B x v) : Q v H := by
  have e : alloc m x c.st = .ok (.d x) c.st := by
    cases m with
    | false => rfl
    | true =>
      cases x with
      | list xs => exact absurd rfl (hx xs)
      | _ => rfl
  rw [e] at h
  exact Post.now (b := v) o h d
theorem cell_at {p : Addr} {cell : Cell} {B : Hp} (o : Ok K c H) : WDen K ⟨B, c.pl ++ [p], c.st ++ [cell]⟩ (.ref c.st.length) (.ref p) :=
  ⟨p, by show (c.pl ++ [p])[c.st.length]? = some p; rw [← o.len, List.getElem?_append_right (Nat.le_refl _)]; simp, rfl⟩
theorem alloc_new {m : Bool} {xs : List D} {vs : List V} {Q : VK} {E : EK} (o : Ok K c H) (h : Post K mg c H (alloc m (.list xs) c.st) (RW K) Q E) (d : DenL K c.B xs vs) : ∀ p, H p = none → Q (.ref p) (upd H p (.lst vs)) := fun p hp => by
  cases m with
  | false =>
    obtain ⟨o1, e1⟩ := new_data (o := HO.lst vs) o hp
    exact h ⟨upd c.B p (.lst vs), c.pl, c.st⟩ _ (.ref p) rfl e1 o1 (.list upd_same (d.mono e1.exB))
  | true =>
    obtain ⟨o1, e1⟩ := new_cell (cell := .list (xs.map .d)) (o := HO.lst vs) o hp ⟨vs, rfl, wdenl_of d⟩
    exact h _ _ _ rfl e1 o1 (cell_at o)
theorem allocL_new {ws : List W} {vs : List V} {Q : VK} {E : EK} (o : Ok K c H) (h : Post K mg c H (allocL ws c.st) (RW K) Q E) (d : WDenL K c ws vs) : ∀ p, H p = none → Q (.ref p) (upd H p (.lst vs)) := fun p hp => by
  obtain ⟨o1, e1⟩ := new_cell (cell := .list ws) (o := HO.lst vs) o hp ⟨vs, rfl, d⟩
  exact h _ _ _ rfl e1 o1 (cell_at o)
theorem allocT_new {ws : List W} {vs : List V} {Q : VK} {E : EK} (o : Ok K c H) (h : Post K mg c H (allocT ws c.st) (RW K) Q E) (d : WDenL K c ws vs) : ∀ p, H p = none → Q (.ref p) (upd H p (.tup vs)) := fun p hp => by
  obtain ⟨o1, e1⟩ := new_cell (cell := .tup ws) (o := HO.tup vs) o hp ⟨vs, rfl, d⟩
  exact h _ _ _ rfl e1 o1 (cell_at o)
theorem tup_new {xs : List D} {vs : List V} {Q : VK} {E : EK} (o : Ok K c H) (h : Post K mg c H (M.pure (W.d (.tup xs)) c.st) (RW K) Q E) (d : DenL K c.B xs vs) : ∀ p, H p = none → Q (.ref p) (upd H p (.tup vs)) := fun p hp => by
  obtain ⟨o1, e1⟩ := new_data (o := HO.tup vs) o hp
  exact h ⟨upd c.B p (.tup vs), c.pl, c.st⟩ _ (.ref p) rfl e1 o1 (.tup upd_same (d.mono e1.exB))
/-- names -/
theorem ERel.set {i : Nat} {w : W} {v : V} (h : ERel K c ρ σ) (d : WDen K c w v) : ERel K c (setVar i w ρ) (σ.set i (some v)) := by
  refine ⟨by simp [setVar, h.1], fun j u q => ?_⟩
  have q : (ρ.set i (some w))[j]? = some (some u) := q
  by_cases e : i = j
  · subst e
    by_cases hi : i < ρ.length
    · rw [List.getElem?_set_self hi] at q
      cases q
      exact ⟨v, by rw [List.getElem?_set_self (h.1 ▸ hi)], d⟩
    · rw [List.getElem?_eq_none (by simpa using hi)] at q
      cases q
  · rw [List.getElem?_set_ne e] at q
    obtain ⟨u', q1, q2⟩ := h.2 j u q
    exact ⟨u', by rw [List.getElem?_set_ne e]; exact q1, q2⟩
theorem ERel.wipe (h : ERel K c ρ σ) : ∀ vs : List Nat, ERel K c (wipeE ρ vs) (wipe σ vs)
  | [] => h
  | v :: vs => by
    have ih := ERel.wipe h vs
    refine ⟨by simp [wipeE, L2.wipe, ih.1], fun j u q => ?_⟩
    have q : ((wipeE ρ vs).set v none)[j]? = some (some u) := q
    show ∃ v', ((L2.wipe σ vs).set v none)[j]? = some (some v') ∧ _
    by_cases e : v = j
    · subst e
      by_cases hi : v < (wipeE ρ vs).length
      · rw [List.getElem?_set_self hi] at q
        cases q
      · rw [List.getElem?_eq_none (by simpa using hi)] at q
        cases q
    · rw [List.getElem?_set_ne e] at q
      obtain ⟨u', q1, q2⟩ := ih.2 j u q
      exact ⟨u', by rw [List.getElem?_set_ne e]; exact q1, q2⟩
theorem ERel.unset (h : ERel K c ρ σ) (i : Nat) (v : Option V) : ERel K c (ρ.set i Option.none) (σ.set i v) := by
  refine ⟨by simp [h.1], fun j u q => ?_⟩
  by_cases e : i = j
  · subst e
    by_cases hi : i < ρ.length
    · rw [List.getElem?_set_self hi] at q
      cases q
    · rw [List.getElem?_eq_none (by simpa using hi)] at q
      cases q
  · rw [List.getElem?_set_ne e] at q
    obtain ⟨u', q1, q2⟩ := h.2 j u q
    exact ⟨u', by rw [List.getElem?_set_ne e]; exact q1, q2⟩
end
end Cr

namespace Cr
open PySem L2
theorem fits_le {n : Nat} (h : fits n = true) : n ≤ sizeLine := by
  have := of_decide_eq_true h
  rw [sizeLine_eq]
  exact this
theorem and2 {a b : Bool} (h : (a && b) = true) : a = true ∧ b = true := by simpa using h
theorem and3 {a b c : Bool} (h : (a && b && c) = true) : a = true ∧ b = true ∧ c = true := by
  obtain ⟨h, q⟩ := and2 h
  obtain ⟨h, r⟩ := and2 h
  exact ⟨h, r, q⟩
theorem S_len (s : List Nat) : (⟨s.toArray⟩ : Str).length = s.length := by simp [Str.length]
theorem S_inj {a b : List Nat} (h : (⟨a.toArray⟩ : Str) = ⟨b.toArray⟩) : a = b := by
  have := congrArg (fun x : Str => x.cps.toList) h
  simpa using this
theorem S_app (a b : List Nat) : (⟨a.toArray⟩ : Str) ++ ⟨b.toArray⟩ = ⟨(a ++ b).toArray⟩ := TL.ext_tl (TL.tl_append _ _)
theorem S_of (z : Str) : (⟨z.cps.toList.toArray⟩ : Str) = z := TL.ext_tl rfl
section
variable {X : Cx} {K : KF} {c : Cfg} {H : Hp}
theorem if_some {b : Bool} {α : Type} {x z : α} (h : (if b then some x else none) = some z) : b = true ∧ x = z := by
  cases b with
  | false => cases h
  | true => exact ⟨rfl, Option.some.inj h⟩
def rBinI (op : Operator) : R2 := fun x y H Q => ∃ i j z, x = .int i ∧ y = .int j ∧ intBin op i j = some z ∧ Q (.int z) H
theorem op_int : ∀ op : Operator, OpR X (binaryOp op) (rBinI op) := by
  intro op pins s σ H x y v u Q I rx ry h
  obtain ⟨i, j, z, rfl, rfl, e, q⟩ := h
  cases op with
  | Add => cases e; exact op_add pins s σ H _ _ v u Q I rx ry ⟨i, j, rfl, rfl, q⟩
  | Sub => cases e; exact op_sub pins s σ H _ _ v u Q I rx ry ⟨i, j, rfl, rfl, q⟩
  | Mult =>
    obtain ⟨e0, rfl⟩ := if_some e
    refine op_mul pins s σ H _ _ v u Q I rx ry ⟨i, j, rfl, rfl, ?_, q⟩
    unfold mulOk at e0
    rcases (Bool.or_eq_true _ _).mp e0 with e | e
    · exact .inl (of_decide_eq_true e)
    · exact .inr (of_decide_eq_true e)
  | FloorDiv =>
    obtain ⟨e0, rfl⟩ := if_some e
    obtain ⟨e1, e2⟩ := and2 e0
    exact op_fdiv pins s σ H _ _ v u Q I rx ry ⟨i, j, rfl, rfl, ⟨of_decide_eq_true e1, of_decide_eq_true e2⟩, q⟩
  | Mod =>
    obtain ⟨e0, rfl⟩ := if_some e
    exact op_mod pins s σ H _ _ v u Q I rx ry ⟨i, j, rfl, rfl, of_decide_eq_true e0, q⟩
  | Pow =>
    obtain ⟨e0, rfl⟩ := if_some e
    obtain ⟨e1, e2, e3⟩ := and3 e0
    exact op_pow pins s σ H _ _ v u Q I rx ry ⟨i, j, rfl, rfl, ⟨of_decide_eq_true e1, of_decide_eq_true e2, of_decide_eq_true e3⟩, q⟩
  | LShift =>
    obtain ⟨e0, rfl⟩ := if_some e
    obtain ⟨e1, e2, e3⟩ := and3 e0
    exact op_shl pins s σ H _ _ v u Q I rx ry ⟨i, j, rfl, rfl, ⟨of_decide_eq_true e1, of_decide_eq_true e2, of_decide_eq_true e3⟩, q⟩
  | RShift =>
    obtain ⟨e0, rfl⟩ := if_some e
    exact op_shr pins s σ H _ _ v u Q I rx ry ⟨i, j, rfl, rfl, of_decide_eq_true e0, q⟩
  | BitAnd => cases e; exact op_and pins s σ H _ _ v u Q I rx ry ⟨i, j, rfl, rfl, q⟩
  | BitOr => cases e; exact op_or pins s σ H _ _ v u Q I rx ry ⟨i, j, rfl, rfl, q⟩
  | BitXor => cases e; exact op_xor pins s σ H _ _ v u Q I rx ry ⟨i, j, rfl, rfl, q⟩
  | _ => cases e
/-- a text, several times -/
def rRepS : R2 := fun x y H Q => ∃ (a : List Nat) (k : Int), x = .str ⟨a.toArray⟩ ∧ y = .int k ∧ -(2 ^ 63) ≤ k ∧ k < 2 ^ 63 ∧ a.length * k.toNat ≤ sizeLine ∧ Q (.str ⟨(List.replicate k.toNat a).flatten.toArray⟩) H
theorem rep_arr (a : List Nat) : ∀ (n : Nat) (acc : List Nat), (List.replicate n a.toArray).foldl (fun x y => x ++ y) acc.toArray = (acc ++ (List.replicate n a).flatten).toArray
  | 0, acc => by simp
  | n + 1, acc => by
    rw [List.replicate_succ, List.foldl_cons, List.replicate_succ, List.flatten_cons, ← List.append_assoc]
    have e : acc.toArray ++ a.toArray = (acc ++ a).toArray := by simp
    rw [e]
    exact rep_arr a n (acc ++ a)
theorem op_repS : OpR X (binaryOp .Mult) rRepS := by
  intro pins s σ H x y v u Q I rx ry h
  obtain ⟨a, k, rfl, rfl, h1, h2, hz, q⟩ := h
  obtain ⟨t, rfl⟩ := rx
  obtain ⟨t', rfl⟩ := ry
  have sl : (sizeLine : Nat) < 2 ^ 40 := by decide
  have L : (⟨a.toArray⟩ : Str).length = a.length := S_len a
  have done : ∀ (z : Value) (s' : Shared), (∃ t, z = .str ⟨(List.replicate k.toNat a).flatten.toArray⟩ t) → (∃ n, s' = { s with toks := n }) → EP X pins σ Q z s' := fun z s' ⟨t, e1⟩ ⟨n, e2⟩ => by
    subst e1 e2
    exact ⟨.str ⟨(List.replicate k.toNat a).flatten.toArray⟩, H, I.tok _, ⟨t, rfl⟩, q⟩
  refine PySem.P.mul_str ?_ (fun h1 h2 => ?_) (fun h1 h2 => ?_) ?_
  · rw [decide_eq_false (by omega), decide_eq_false (by omega)]
    rfl
  · rw [L]
    intro hb
    have hk : 0 < k := by omega
    have := Int.le_ediv_of_mul_le (a := (a.length : Int)) (b := 2 ^ 63 - 1) hk (by
      have : (a.length : Int) * k = ((a.length * k.toNat : Nat) : Int) := by
        rw [Int.natCast_mul, Int.toNat_of_nonneg (by omega)]
      omega)
    omega
  · rw [L]
    exact decide_eq_false (by omega)
  · split
    · rename_i hk
      have e : k.toNat = 0 := by omega
      refine ⟨by decide, done _ _ ⟨s.toks, ?_⟩ ⟨_, rfl⟩⟩
      rw [e]
      rfl
    · rename_i hk
      split
      · rename_i ho
        refine done _ _ ⟨t, ?_⟩ ⟨s.toks, rfl⟩
        rw [L] at ho
        have ho : k = 1 ∨ a.length = 0 := by simpa using ho
        rcases ho with ho | ho
        · subst ho
          simp
        · have : a = [] := List.length_eq_zero_iff.mp ho
          subst this
          simp
      · refine ⟨?_, done _ _ ⟨s.toks, ?_⟩ ⟨_, rfl⟩⟩
        · have e := rep_arr a k.toNat []
          show (⟨(List.replicate k.toNat a.toArray).foldl (· ++ ·) #[]⟩ : Str).length ≤ sizeLine
          have e' : (List.replicate k.toNat a.toArray).foldl (fun x y => x ++ y) #[] = (List.replicate k.toNat a).flatten.toArray := by simpa using e
          rw [e', S_len]
          simpa [List.length_flatten, Nat.mul_comm] using hz
        · have e := rep_arr a k.toNat []
          have e' : (List.replicate k.toNat a.toArray).foldl (fun x y => x ++ y) #[] = (List.replicate k.toNat a).flatten.toArray := by simpa using e
          rw [← e']
def rBin (op : Operator) : R2 := fun x y H Q => rBinI op x y H Q ∨
  (op = .Add ∧ ∃ i j, x = .str i ∧ y = .str j ∧ i.length + j.length ≤ sizeLine ∧ Q (.str (i ++ j)) H) ∨ (op = .Add ∧ rCat x y H Q) ∨ (op = .Mult ∧ rRep x y H Q) ∨ (op = .Mult ∧ rRepS x y H Q)
theorem op_bin (op : Operator) : OpR X (binaryOp op) (rBin op) := by
  intro pins s σ H x y v u Q I rx ry h
  rcases h with h | ⟨rfl, h⟩ | ⟨rfl, h⟩ | ⟨rfl, h⟩ | ⟨rfl, h⟩
  · exact op_int op pins s σ H x y v u Q I rx ry h
  · exact op_add_str pins s σ H x y v u Q I rx ry h
  · exact op_cat pins s σ H x y v u Q I rx ry h
  · exact op_rep pins s σ H x y v u Q I rx ry h
  · exact op_repS pins s σ H x y v u Q I rx ry h
variable {mg : Str → Option Value}
/-- the operation's value, by what is seen -/
theorem bin_ok {op : Operator} {a b z : D} {x y : V} {m : Bool} {Q : VK} {E : EK} (o : Ok K c H) (sa : See K c.B H a x) (sb : See K c.B H b y) (e : binD op a b = some z)
    (p : Post K mg c H (alloc m z c.st) (RW K) Q E) : rBin op x y H Q := by
  cases a with
  | int i =>
    cases sa
    cases b with
    | int j =>
      cases sb
      obtain ⟨w, e1, rfl⟩ := Option.map_eq_some_iff.mp e
      exact .inl ⟨i, j, w, rfl, rfl, e1, alloc_old o (by intro _ z; cases z) p (.int w)⟩
    | _ => cases e
  | str s =>
    cases sa
    cases b with
    | str t =>
      cases sb
      cases op with
      | Add =>
        obtain ⟨e1, rfl⟩ := if_some e
        refine .inr (.inl ⟨rfl, _, _, rfl, rfl, ?_, ?_⟩)
        · rw [S_len, S_len]
          exact fits_le e1
        · rw [S_app]
          exact alloc_old o (by intro _ z; cases z) p (.str _)
      | _ => cases e
    | int k =>
      cases sb
      cases op with
      | Mult =>
        obtain ⟨e1, rfl⟩ := if_some e
        obtain ⟨e1, e2⟩ := and2 e1
        obtain ⟨e0, e1⟩ := of_decide_eq_true e1
        exact .inr (.inr (.inr (.inr ⟨rfl, _, k, rfl, rfl, e0, e1, fits_le e2, alloc_old o (by intro _ z; cases z) p (.str _)⟩)))
      | _ => cases e
    | _ => cases e
  | list xs =>
    obtain ⟨pa, vs, rfl, ha, da⟩ := sa
    cases b with
    | list ys =>
      obtain ⟨pb, ws, rfl, hb, db⟩ := sb
      cases op with
      | Add =>
        obtain ⟨e1, rfl⟩ := if_some e
        refine .inr (.inr (.inl ⟨rfl, pa, pb, vs, ws, rfl, rfl, ha, hb, ?_, alloc_new o p (da.append db)⟩))
        rw [← da.length, ← db.length]
        exact fits_le e1
      | _ => cases e
    | int k =>
      cases sb
      cases op with
      | Mult =>
        obtain ⟨e1, rfl⟩ := if_some e
        obtain ⟨e1, e2⟩ := and2 e1
        obtain ⟨e0, e1⟩ := of_decide_eq_true e1
        refine .inr (.inr (.inr (.inl ⟨rfl, pa, k, vs, rfl, rfl, ha, e0, e1, ?_, alloc_new o p (da.rep _)⟩)))
        rw [← da.length]
        exact fits_le e2
      | _ => cases e
    | _ => cases e
  | _ => cases b <;> cases e
def rUn (op : UnaryOp) : V → Hp → VK → Prop := fun x H Q => ∃ i, x = .int i ∧ ((op = .USub ∧ Q (.int (-i)) H) ∨ (op = .Invert ∧ Q (.int (Builtin.bitNot i)) H))
theorem op_un (op : UnaryOp) : UnR X (unaryOp op) (rUn op) := by
  intro pins s σ H x v Q I rx h
  obtain ⟨i, rfl, h⟩ := h
  rcases h with ⟨rfl, h⟩ | ⟨rfl, h⟩
  · exact un_neg pins s σ H _ v Q I rx ⟨i, rfl, h⟩
  · exact un_inv pins s σ H _ v Q I rx ⟨i, rfl, h⟩
theorem un_ok {op : UnaryOp} {a z : D} {x : V} {Q : VK} (sa : See K c.B H a x) (e : unD op a = some z) (p : ∀ v, Den K c.B z v → Q v H) : rUn op x H Q := by
  cases a with
  | int i =>
    cases sa
    cases op with
    | USub => cases e; exact ⟨i, rfl, .inl ⟨rfl, p _ (.int _)⟩⟩
    | Invert => cases e; exact ⟨i, rfl, .inr ⟨rfl, p _ (.int _)⟩⟩
    | _ => cases e
  | _ => cases op <;> cases e

mutual
theorem den_dp {B : Hp} (e : Ex B H) : ∀ {x : D} {v : V} {p : PyData}, Den K B x v → x.toPy = some p → Dp K H v p
  | _, _, _, .non, h => by cases h; exact .non
  | _, _, _, .bool b, h => by cases h; exact .bl b
  | _, _, _, .int i, h => by cases h; exact .int i
  | _, _, _, .str s, h => by cases h; exact .str _
  | _, _, _, .list h l, q => by
    obtain ⟨ds, q0, rfl⟩ := Option.map_eq_some_iff.mp q
    exact .lst (SqL.of (e _ _ h)) (dens_dp e l q0)
  | _, _, _, .tup h l, q => by
    obtain ⟨ds, q0, rfl⟩ := Option.map_eq_some_iff.mp q
    exact .tup (SqT.of (e _ _ h)) (dens_dp e l q0)
  | _, _, _, .rol h l, q => by
    obtain ⟨ds, q0, rfl⟩ := Option.map_eq_some_iff.mp q
    exact .lst (e.sql h) (dens_dp e l q0)
theorem dens_dp {B : Hp} (e : Ex B H) : ∀ {xs : List D} {vs : List V} {ps : List PyData}, DenL K B xs vs → D.toPys xs = some ps → DpAll K H vs ps
  | _, _, _, .nil, h => by cases h; exact .nil
  | _, _, _, .cons h l, q => by
    obtain ⟨a, q1, q⟩ := Option.bind_eq_some_iff.mp q
    obtain ⟨r, q2, rfl⟩ := Option.map_eq_some_iff.mp q
    exact .cons (den_dp e h q1) (dens_dp e l q2)
end
theorem see_dp {x : D} {v : V} {p : PyData} (o : Ok K c H) (h : See K c.B H x v) (q : x.toPy = some p) : Dp K H v p := by
  cases x with
  | list xs =>
    obtain ⟨a, vs, rfl, h, l⟩ := h
    obtain ⟨ds, q0, rfl⟩ := Option.map_eq_some_iff.mp q
    exact .lst (SqL.of h) (dens_dp o.sub l q0)
  | _ => exact den_dp o.sub h q
/-- both == : of scalars, of data -/
def rEqX (K : KF) (neg : Bool) : R2 := fun x y H Q => (scal x y = true ∧ Q (.bl (if neg then !decide (x = y) else decide (x = y))) H) ∨
  ∃ d e, Dp K H x d ∧ Dp K H y e ∧ SeqAt.shaped d = true ∧ SeqAt.shaped e = true ∧ Q (.bl (if neg then !PyData.eqv d e else PyData.eqv d e)) H
theorem op_eqX (hu : X.A.units + 64 < cLine) : OpR X (compareOp .Eq) (rEqX X.K false) := by
  intro pins s σ H x y v u Q I rx ry h
  rcases h with h | h
  · exact op_eq pins s σ H x y v u Q I rx ry h
  · exact op_eqD hu pins s σ H x y v u Q I rx ry h
theorem op_neX (hu : X.A.units + 64 < cLine) : OpR X (compareOp .NotEq) (rEqX X.K true) := by
  intro pins s σ H x y v u Q I rx ry h
  rcases h with h | h
  · exact op_ne pins s σ H x y v u Q I rx ry h
  · exact op_neD hu pins s σ H x y v u Q I rx ry h
theorem eq_ok {neg : Bool} {a b : D} {x y : V} {k : Bool} {Q : VK} (o : Ok K c H) (sa : See K c.B H a x) (sb : See K c.B H b y) (e : eqD a b = some k) (q : Q (.bl (if neg then !k else k)) H) : rEqX K neg x y H Q := by
  have deep : eqDeep a b = some k → rEqX K neg x y H Q := fun e => by
    obtain ⟨d, e1, e⟩ := Option.bind_eq_some_iff.mp e
    obtain ⟨d', e2, e⟩ := Option.bind_eq_some_iff.mp e
    obtain ⟨e3, rfl⟩ := if_some e
    obtain ⟨e3, e4⟩ := and2 e3
    exact .inr ⟨d, d', see_dp o sa e1, see_dp o sb e2, e3, e4, q⟩
  cases a with
  | int i =>
    cases sa
    cases b with
    | int j =>
      cases sb
      cases e
      refine .inl ⟨rfl, ?_⟩
      have z : decide (V.int i = V.int j) = decide (i = j) := by
        rw [dec_int, Bool.beq_eq_decide_eq]
      rw [z]
      exact q
    | _ => exact deep e
  | str i =>
    cases sa
    cases b with
    | str j =>
      cases sb
      cases e
      refine .inl ⟨rfl, ?_⟩
      have z : decide (V.str ⟨i.toArray⟩ = V.str ⟨j.toArray⟩) = decide (i = j) := by
        by_cases h : i = j
        · subst h; simp
        · rw [decide_eq_false h, decide_eq_false (fun z => h (S_inj (V.str.inj z)))]
      rw [z]
      exact q
    | _ => exact deep e
  | bool i =>
    cases sa
    cases b with
    | bool j =>
      cases sb
      cases e
      refine .inl ⟨rfl, ?_⟩
      have z : decide (V.bl i = V.bl j) = decide (i = j) := by
        by_cases h : i = j
        · subst h; simp
        · rw [decide_eq_false h, decide_eq_false (fun z => h (V.bl.inj z))]
      rw [z]
      exact q
    | _ => exact deep e
  | non =>
    cases sa
    cases b with
    | non =>
      cases sb
      cases e
      exact .inl ⟨rfl, by rw [decide_eq_true rfl]; exact q⟩
    | _ => exact deep e
  | _ => exact deep (by cases b <;> exact e)
/-- in, not in: a sign in a text; flat data in a list, a tuple -/
def rInDp (K : KF) (neg : Bool) : R2 := fun x y H Q => ∃ d ds, Dp K H x d ∧ (Dp K H y (.list ds) ∨ Dp K H y (.tuple ds)) ∧ d.canLay0 = true ∧ PyData.canLayAll0 ds = true ∧ d.depth ≤ 60 ∧ Q (.bl (if neg then !(ds.any fun y => PyData.eqv y d) else ds.any fun y => PyData.eqv y d)) H
def rInX (K : KF) (neg : Bool) : R2 := fun x y H Q => (∃ (c : Nat) (z : Str), x = .str ⟨#[c]⟩ ∧ y = .str z ∧ Q (.bl (if neg then !decide (c ∈ z.cps.toList) else decide (c ∈ z.cps.toList))) H) ∨ rIn K neg x y H Q ∨ rInDp K neg x y H Q
theorem op_inX (hu : X.A.units + 64 < cLine) : OpR X (compareOp .In) (rInX X.K false) := by
  intro pins s σ H x y v u Q I rx ry h
  rcases h with h | h | ⟨d, ds, hx, hy, c1, c2, c3, q⟩
  · exact op_in_sign pins s σ H x y v u Q I rx ry h
  · exact op_in_seq pins s σ H x y v u Q I rx ry h
  · obtain ⟨as, r1⟩ := Dp.reads I d x v hx rx
    have hl : X.A.units + 1 + min (PyData.depthAll ds) d.depth < cLine := Nat.lt_of_le_of_lt (by have := Nat.min_le_right (PyData.depthAll ds) d.depth; omega) hu
    rcases hy with hy | hy
    · obtain ⟨bs, r2⟩ := Dp.reads I _ y u hy ry
      exact SeqAt.in_list_reads r2 r1 c2 c1 hl ⟨.bl _, H, I, rfl, q⟩
    · obtain ⟨bs, r2⟩ := Dp.reads I _ y u hy ry
      exact SeqAt.in_tuple_reads r2 r1 c2 c1 hl ⟨.bl _, H, I, rfl, q⟩
theorem op_niX (hu : X.A.units + 64 < cLine) : OpR X (compareOp .NotIn) (rInX X.K true) := by
  intro pins s σ H x y v u Q I rx ry h
  rcases h with h | h | ⟨d, ds, hx, hy, c1, c2, c3, q⟩
  · exact op_notIn_sign pins s σ H x y v u Q I rx ry h
  · exact op_notIn_seq pins s σ H x y v u Q I rx ry h
  · obtain ⟨as, r1⟩ := Dp.reads I d x v hx rx
    have hl : X.A.units + 1 + min (PyData.depthAll ds) d.depth < cLine := Nat.lt_of_le_of_lt (by have := Nat.min_le_right (PyData.depthAll ds) d.depth; omega) hu
    rcases hy with hy | hy
    · obtain ⟨bs, r2⟩ := Dp.reads I _ y u hy ry
      exact SeqAt.notIn_list_reads r2 r1 c2 c1 hl ⟨.bl _, H, I, rfl, q⟩
    · obtain ⟨bs, r2⟩ := Dp.reads I _ y u hy ry
      exact SeqAt.notIn_tuple_reads r2 r1 c2 c1 hl ⟨.bl _, H, I, rfl, q⟩
theorem flat_of {B : Hp} {a : D} {x : V} (s : Den K B a x) (h : a.flat = true) : flatV x = true := by
  cases s <;> first | rfl | cases h
theorem flats_of {B : Hp} : ∀ {xs : List D} {vs : List V}, DenL K B xs vs → xs.all D.flat = true → vs.all flatV = true
  | _, _, .nil, _ => rfl
  | _, _, .cons h l, q => by
    rw [List.all_cons] at q ⊢
    obtain ⟨q1, q2⟩ := and2 q
    rw [flat_of h q1, flats_of l q2]
    rfl
theorem eqF_of {B : Hp} {a b : D} {x y : V} (sa : Den K B a x) (sb : Den K B b y) (fa : a.flat = true) (fb : b.flat = true) : eqV x y = eqF a b := by
  cases sa with
  | non => cases sb <;> first | rfl | cases fb
  | bool _ => cases sb <;> first | rfl | cases fb
  | int _ => cases sb <;> first | rfl | cases fb
  | str i =>
    cases sb with
    | str j =>
      show (Str.mk i.toArray == Str.mk j.toArray) = decide (i = j)
      by_cases h : i = j
      · subst h; simp
      · rw [decide_eq_false h]
        exact beq_eq_false_iff_ne.mpr fun z => h (S_inj z)
    | _ => first | rfl | cases fb
  | _ => cases fa
theorem inF_of {B : Hp} {a : D} {x : V} (sa : Den K B a x) (fa : a.flat = true) : ∀ {xs : List D} {vs : List V}, DenL K B xs vs → xs.all D.flat = true → inV x vs = xs.any fun z => eqF z a
  | _, _, .nil, _ => rfl
  | _, _, .cons h l, q => by
    rw [List.all_cons] at q
    obtain ⟨q1, q2⟩ := and2 q
    show (eqV _ x || inV x _) = (eqF _ a || _)
    rw [eqF_of h sa q1 fa, inF_of sa fa l q2]
theorem see_flat {a : D} {x : V} (s : See K c.B H a x) (h : a.flat = true) : Den K c.B a x := by
  cases a <;> first | exact s | cases h
theorem in_ok {neg : Bool} {a b : D} {x y : V} {k : Bool} {Q : VK} (o : Ok K c H) (sa : See K c.B H a x) (sb : See K c.B H b y) (e : inD a b = some k) (q : Q (.bl (if neg then !k else k)) H) : rInX K neg x y H Q := by
  have seq : ∀ {ys : List D} {p : Addr} {vs : List V}, y = .ref p → (SqL K H p vs ∨ SqT K H p vs) → DenL K c.B ys vs → (if a.flat && ys.all D.flat then some (ys.any fun z => eqF z a) else inDeep a ys) = some k → rInX K neg x y H Q := fun {ys p vs} ey hs l e => by
    by_cases hfl : (a.flat && ys.all D.flat) = true
    · rw [if_pos hfl] at e
      cases e
      obtain ⟨e1, e2⟩ := and2 hfl
      have sa' := see_flat sa e1
      refine .inr (.inl ⟨p, vs, ey, hs, flat_of sa' e1, flats_of l e2, ?_⟩)
      rw [inF_of sa' e1 l e2]
      exact q
    · rw [if_neg hfl] at e
      obtain ⟨d, q1, e⟩ := Option.bind_eq_some_iff.mp e
      obtain ⟨ds, q2, e⟩ := Option.bind_eq_some_iff.mp e
      obtain ⟨e1, rfl⟩ := if_some e
      obtain ⟨e1, e4⟩ := and2 e1
      obtain ⟨e2, e3⟩ := and2 e1
      subst ey
      refine .inr (.inr ⟨d, ds, see_dp o sa q1, ?_, e2, e3, of_decide_eq_true e4, q⟩)
      rcases hs with hs | hs
      · exact .inl (.lst hs (dens_dp o.sub l q2))
      · exact .inr (.tup hs (dens_dp o.sub l q2))
  have str1 : ∀ {i z : List Nat}, a = .str i → b = .str z → rInX K neg x y H Q := fun {i z} ea eb => by
    subst ea
    subst eb
    cases sa
    cases sb
    match i, e with
    | [ch], e =>
      cases e
      exact .inl ⟨ch, _, rfl, rfl, q⟩
    | [], e => cases e
    | _ :: _ :: _, e => cases e
  cases b with
  | str z =>
    cases a with
    | str i => exact str1 rfl rfl
    | _ => cases e
  | list ys =>
    obtain ⟨p, vs, rfl, hp, l⟩ := sb
    refine seq rfl (.inl (SqL.of hp)) l ?_
    cases a with
    | str i => match i, e with
      | [], e => exact e
      | [_], e => exact e
      | _ :: _ :: _, e => exact e
    | _ => exact e
  | tup ys =>
    cases sb with
    | tup hp l =>
      refine seq rfl (.inr (SqT.of (o.sub _ _ hp))) l ?_
      cases a with
      | str i => match i, e with
        | [], e => exact e
        | [_], e => exact e
        | _ :: _ :: _, e => exact e
      | _ => exact e
  | rol ys =>
    cases sb with
    | rol hp l =>
      refine seq rfl (.inl (o.sub.sql hp)) l ?_
      cases a with
      | str i => match i, e with
        | [], e => exact e
        | [_], e => exact e
        | _ :: _ :: _, e => exact e
      | _ => exact e
  | _ => cases a <;> first | cases e | (rename_i i; match i, e with
      | [], e => cases e
      | [_], e => cases e
      | _ :: _ :: _, e => cases e)
def rOrd (op : CmpOp) : R2 := fun x y H Q => ∃ i j, x = .int i ∧ y = .int j ∧ ((op = .Lt ∧ Q (.bl (decide (i < j))) H) ∨ (op = .LtE ∧ Q (.bl (decide (i ≤ j))) H) ∨ (op = .Gt ∧ Q (.bl (decide (j < i))) H) ∨ (op = .GtE ∧ Q (.bl (decide (j ≤ i))) H))
/-- a comparison's value, by data -/
def rCmp (K : KF) (op : CmpOp) : R2 := fun x y H Q => match op with
  | .Eq => rEqX K false x y H Q
  | .NotEq => rEqX K true x y H Q
  | .In => rInX K false x y H Q
  | .NotIn => rInX K true x y H Q
  | .Is => y = .non ∧ Q (.bl (decide (x = .non))) H
  | .IsNot => y = .non ∧ Q (.bl (!decide (x = .non))) H
  | op => rOrd op x y H Q
theorem op_cmp (hu : X.A.units + 64 < cLine) : ∀ op : CmpOp, OpR X (compareOp op) (rCmp X.K op) := by
  intro op pins s σ H x y v u Q I rx ry h
  cases op with
  | Eq => exact op_eqX hu pins s σ H x y v u Q I rx ry h
  | NotEq => exact op_neX hu pins s σ H x y v u Q I rx ry h
  | In => exact op_inX hu pins s σ H x y v u Q I rx ry h
  | NotIn => exact op_niX hu pins s σ H x y v u Q I rx ry h
  | Is => exact op_isN pins s σ H x y v u Q I rx ry h
  | IsNot => exact op_notN pins s σ H x y v u Q I rx ry h
  | Lt =>
    obtain ⟨i, j, rfl, rfl, h⟩ := h
    rcases h with ⟨_, h⟩ | ⟨e, _⟩ | ⟨e, _⟩ | ⟨e, _⟩
    · exact op_lt pins s σ H _ _ v u Q I rx ry ⟨i, j, rfl, rfl, h⟩
    all_goals cases e
  | LtE =>
    obtain ⟨i, j, rfl, rfl, h⟩ := h
    rcases h with ⟨e, _⟩ | ⟨_, h⟩ | ⟨e, _⟩ | ⟨e, _⟩
    · cases e
    · exact op_le pins s σ H _ _ v u Q I rx ry ⟨i, j, rfl, rfl, h⟩
    all_goals cases e
  | Gt =>
    obtain ⟨i, j, rfl, rfl, h⟩ := h
    rcases h with ⟨e, _⟩ | ⟨e, _⟩ | ⟨_, h⟩ | ⟨e, _⟩
    · cases e
    · cases e
    · exact op_gt pins s σ H _ _ v u Q I rx ry ⟨i, j, rfl, rfl, h⟩
    · cases e
  | GtE =>
    obtain ⟨i, j, rfl, rfl, h⟩ := h
    rcases h with ⟨e, _⟩ | ⟨e, _⟩ | ⟨e, _⟩ | ⟨_, h⟩
    · cases e
    · cases e
    · cases e
    · exact op_ge pins s σ H _ _ v u Q I rx ry ⟨i, j, rfl, rfl, h⟩
theorem non_iff {a : D} {x : V} (s : See K c.B H a x) : decide (x = V.non) = isNon a := by
  cases a with
  | non => cases s; rfl
  | list xs =>
    obtain ⟨p, vs, rfl, _⟩ := s
    exact decide_eq_false fun z => nomatch z
  | _ => cases s <;> exact decide_eq_false fun z => nomatch z
theorem cmp_ok {op : CmpOp} {a b : D} {x y : V} {k : Bool} {Q : VK} (o : Ok K c H) (sa : See K c.B H a x) (sb : See K c.B H b y) (e : cmpD op a b = some k) (q : Q (.bl k) H) : rCmp K op x y H Q := by
  have ord : ∀ {f : Int → Int → Bool}, ordD f a b = some k → ∃ i j, x = .int i ∧ y = .int j ∧ Q (.bl (f i j)) H := fun {f} e => by
    cases a with
    | int i =>
      cases b with
      | int j =>
        cases sa
        cases sb
        cases e
        exact ⟨i, j, rfl, rfl, q⟩
      | _ => cases e
    | _ => cases e
  cases op with
  | Eq => exact eq_ok o sa sb e q
  | NotEq =>
    obtain ⟨k', e0, rfl⟩ := Option.map_eq_some_iff.mp e
    exact eq_ok o sa sb e0 q
  | In => exact in_ok o sa sb e q
  | NotIn =>
    obtain ⟨k', e0, rfl⟩ := Option.map_eq_some_iff.mp e
    exact in_ok o sa sb e0 q
  | Is =>
    cases b with
    | non =>
      cases sb
      cases e
      exact ⟨rfl, by rw [non_iff sa]; exact q⟩
    | _ => cases e
  | IsNot =>
    cases b with
    | non =>
      cases sb
      cases e
      exact ⟨rfl, by rw [non_iff sa]; exact q⟩
    | _ => cases e
  | Lt => obtain ⟨i, j, e1, e2, q⟩ := ord (f := fun i j => decide (i < j)) e; exact ⟨i, j, e1, e2, .inl ⟨rfl, q⟩⟩
  | LtE => obtain ⟨i, j, e1, e2, q⟩ := ord (f := fun i j => decide (i ≤ j)) e; exact ⟨i, j, e1, e2, .inr (.inl ⟨rfl, q⟩)⟩
  | Gt => obtain ⟨i, j, e1, e2, q⟩ := ord (f := fun i j => decide (j < i)) e; exact ⟨i, j, e1, e2, .inr (.inr (.inl ⟨rfl, q⟩))⟩
  | GtE => obtain ⟨i, j, e1, e2, q⟩ := ord (f := fun i j => decide (j ≤ i)) e; exact ⟨i, j, e1, e2, .inr (.inr (.inr ⟨rfl, q⟩))⟩
end
end Cr

namespace Cr
open PySem L2
section
open Builtin Builtin.Str StrLaws
theorem occ_full (s sub : Str) (hi : Nat) : ∀ (l : List Nat) (a f : Nat), (forIn l ((#[a] : Array Nat), f) (occBody s sub hi 1)).run.fst = #[a]
  | [], a, f => rfl
  | b :: l, a, f => by
    rw [List.forIn_cons]
    unfold occBody
    rw [if_neg (by rintro ⟨⟨⟨h, _⟩, _⟩, _⟩; simp at h)]
    exact occ_full s sub hi l a f
theorem occ_find (s sub : Str) (hi : Nat) : ∀ (l : List Nat) (free : Nat), (∀ i ∈ l, free ≤ i) →
    (forIn l ((#[] : Array Nat), free) (occBody s sub hi 1)).run.fst.toList = (l.find? fun i => decide (i + sub.length ≤ hi ∧ subAt s sub i = true)).toList
  | [], free, _ => rfl
  | a :: l, free, hf => by
    rw [List.forIn_cons]
    unfold occBody
    have ha : free ≤ a := hf a (List.mem_cons_self ..)
    by_cases hc : a + sub.length ≤ hi ∧ subAt s sub a = true
    · have c1 : (((#[] : Array Nat), free).fst.size < 1 ∧ ((#[] : Array Nat), free).snd ≤ a) ∧ a + sub.length ≤ hi := ⟨⟨by simp, ha⟩, hc.1⟩
      rw [if_pos ⟨c1, hc.2⟩, List.find?_cons_of_pos (by simpa using hc)]
      have q := occ_full s sub hi l a (a + sub.length)
      show (forIn l ((#[] : Array Nat).push a, a + sub.length) (occBody s sub hi 1)).run.fst.toList = [a]
      have e : ((#[] : Array Nat).push a) = #[a] := rfl
      rw [e, q]
    · have c2 : ¬ (((((#[] : Array Nat), free).fst.size < 1 ∧ ((#[] : Array Nat), free).snd ≤ a) ∧ a + sub.length ≤ hi) ∧ subAt s sub a = true) := fun h => hc ⟨h.1.2, h.2⟩
      rw [if_neg c2, List.find?_cons_of_neg (by simpa using hc)]
      exact occ_find s sub hi l free (fun i hi' => hf i (List.mem_cons_of_mem _ hi'))
theorem find_first (c : Nat) : ∀ (s : List Nat) (k : Nat) (p : Nat → Bool), (∀ i, i < s.length + 1 → p (k + i) = decide (s[i]? = some c)) →
    (List.range' k (s.length + 1)).find? p = if c ∈ s then some (k + s.idxOf c) else none
  | [], k, p, h => by
    have h0 := h 0 (by simp)
    have : p k = false := by simpa using h0
    simp [List.range'_succ, this]
  | x :: s, k, p, h => by
    rw [List.length_cons, List.range'_succ]
    have h0 := h 0 (by simp)
    by_cases e : x = c
    · subst e
      have : p k = true := by simpa using h0
      rw [List.find?_cons_of_pos this]
      simp
    · have : p k = false := by simpa [e] using h0
      rw [List.find?_cons_of_neg (by simp [this])]
      have ih := find_first c s (k + 1) p (fun i hi => by
        have q := h (i + 1) (by simp; omega)
        rw [show k + 1 + i = k + (i + 1) by omega, q]
        simp)
      rw [ih]
      have e' : ¬ c = x := fun z => e z.symm
      by_cases hm : c ∈ s
      · rw [if_pos hm, if_pos (List.mem_cons_of_mem _ hm), List.idxOf_cons]
        have : (x == c) = false := by simpa using e
        rw [this]
        simp
        omega
      · rw [if_neg hm, if_neg (by simp [hm, e'])]
theorem occ_sign (s : List Nat) (c : Nat) : occurrences ⟨s.toArray⟩ ⟨[c].toArray⟩ 0 (⟨s.toArray⟩ : Str).length 1 = if c ∈ s then [s.idxOf c] else [] := by
  rw [occ_eq, occ_find _ _ _ _ 0 (fun _ _ => Nat.zero_le _)]
  have e1 : (⟨s.toArray⟩ : Str).length = s.length := S_len s
  rw [e1, Nat.sub_zero, find_first c s 0]
  · split
    · simp
    · rfl
  · intro i hi
    have q := subAt_one ⟨s.toArray⟩ c i
    rw [e1] at q
    have e2 : (⟨s.toArray⟩ : Str).cps.toList = s := rfl
    rw [e2] at q
    rw [Nat.zero_add]
    exact decide_eq_decide.mpr q
end
section
variable {X : Cx} {K : KF} {c : Cfg} {H : Hp} {mg : Str → Option Value}
theorem atI_len {α β : Type} {xs : List α} {ys : List β} (h : xs.length = ys.length) (i : Int) : ixN xs.length i = ixN ys.length i := by rw [h]
theorem atI_den {B : Hp} {xs : List D} {vs : List V} {i : Int} {z : D} (l : DenL K B xs vs) (e : atI xs i = some z) : ∃ v, atI vs i = some v ∧ Den K B z v := by
  obtain ⟨j, e1, e2⟩ := Option.bind_eq_some_iff.mp e
  obtain ⟨v, h1, h2⟩ := l.get e2
  refine ⟨v, ?_, h2⟩
  unfold atI
  rw [← l.length, e1]
  exact h1
theorem idx_ok {a b z : D} {x y : V} {Q : VK} (o : Ok K c H) (sa : See K c.B H a x) (sb : See K c.B H b y) (e : idxD a b = some z) (p : ∀ v, Den K c.B z v → Q v H) : rIx K x y H Q := by
  cases b with
  | int i =>
    cases sb
    cases a with
    | list xs =>
      obtain ⟨pa, vs, rfl, h, l⟩ := sa
      obtain ⟨v, h1, h2⟩ := atI_den l e
      exact .inl ⟨pa, vs, i, v, rfl, rfl, SqL.of h, h1, p v h2⟩
    | tup xs =>
      cases sa with
      | tup h l =>
        obtain ⟨v, h1, h2⟩ := atI_den l e
        exact .inr (.inl ⟨_, _, i, v, rfl, rfl, SqT.of (o.sub _ _ h), h1, p v h2⟩)
    | rol xs =>
      cases sa with
      | rol h l =>
        obtain ⟨v, h1, h2⟩ := atI_den l e
        exact .inl ⟨_, _, i, v, rfl, rfl, o.sub.sql h, h1, p v h2⟩
    | str s =>
      cases sa
      have e : (if fits s.length then (atI s i).map fun c => D.str [c] else none) = some z := e
      by_cases f : fits s.length = true
      · rw [if_pos f] at e
        obtain ⟨ch, e1, rfl⟩ := Option.map_eq_some_iff.mp e
        exact .inr (.inr ⟨_, i, ch, rfl, rfl, by rw [S_len]; exact fits_le f, e1, p _ (.str [ch])⟩)
      · rw [if_neg f] at e
        cases e
    | _ => cases e
  | _ => cases a <;> cases e
def rSl (K : KF) : V → Option Int → Option Int → Hp → VK → Prop := fun x lo hi H Q => (rSlL K x lo hi H Q ∨ rSlS x lo hi H Q) ∨ rSlA K x lo hi H Q
theorem sl_ok : SlR X (rSl X.K) := SlR.or (SlR.or sl_list sl_str) sl_tupA
theorem cut_den {B : Hp} {xs : List D} {vs : List V} (l : DenL K B xs vs) (lo hi : Option Int) : DenL K B (cut xs lo hi) (cutV vs lo hi) := by
  unfold cut cutV
  rw [← l.length]
  exact (l.drop _).take _
theorem cut_all {α : Type} {xs : List α} {lo hi : Option Int} (h1 : HT.sIx xs.length 0 lo = 0) (h2 : HT.sIx xs.length xs.length hi = xs.length) : cut xs lo hi = xs := by
  unfold cut
  rw [h1, h2]
  simp
theorem slice_ok {m : Bool} {a z : D} {x : V} {lo hi : Option Int} {Q : VK} {E : EK} (o : Ok K c H) (sa : See K c.B H a x) (e : sliceD a lo hi = some z) (p : Post K mg c H (alloc m z c.st) (RW K) Q E) : rSl K x lo hi H Q := by
  cases a with
  | list xs =>
    obtain ⟨pa, vs, rfl, h, l⟩ := sa
    cases e
    exact .inl (.inl ⟨pa, vs, rfl, SqL.of h, alloc_new o p (cut_den l lo hi)⟩)
  | rol xs =>
    cases sa with
    | rol h l =>
      cases e
      exact .inl (.inl ⟨_, _, rfl, o.sub.sql h, alloc_new o p (cut_den l lo hi)⟩)
  | tup xs =>
    cases sa with
    | @tup _ _ vs h l =>
      cases e
      have p : Post K mg c H (M.pure (W.d (.tup (cut xs lo hi))) c.st) (RW K) Q E := by
        have e0 : alloc m (.tup (cut xs lo hi)) c.st = .ok (.d (.tup (cut xs lo hi))) c.st := by cases m <;> rfl
        rw [e0] at p
        exact p
      refine .inr ⟨_, vs, rfl, SqT.of (o.sub _ _ h), fun hw => ?_, fun _ => tup_new o p (cut_den l lo hi)⟩
      refine done_d o p ?_
      rw [cut_all (by rw [l.length]; exact hw.1) (by rw [l.length]; exact hw.2)]
      exact .tup h l
  | str s =>
    cases sa
    obtain ⟨f, rfl⟩ := if_some e
    refine .inl (.inr ⟨_, rfl, by rw [S_len]; exact fits_le f, ?_⟩)
    have ez : cutS ⟨s.toArray⟩ lo hi = ⟨(cut s lo hi).toArray⟩ := by
      unfold cutS cut
      rw [S_len]
    rw [ez]
    exact alloc_old o (by intro _ z; cases z) p (.str _)
  | _ => cases e
theorem truth_ok {a : D} {x : V} {k : Bool} (o : Ok K c H) (s : SeeS K c.B H a x) (e : truth a = some k) : TruV K x H k := by
  have em : ∀ {xs : List D} {vs : List V}, xs.length = vs.length → (!xs.isEmpty) = !vs.isEmpty := fun {xs vs} h => by
    cases xs <;> cases vs <;> first | rfl | cases h
  cases a with
  | list xs =>
    obtain ⟨pa, vs, rfl, h, l⟩ := s
    cases e
    exact .inl ⟨vs, SqL.of h, em l⟩
  | tup xs =>
    obtain ⟨pa, vs, rfl, h, l⟩ := s
    cases e
    exact .inr (.inl ⟨vs, SqT.of h, em l⟩)
  | rol xs =>
    cases s with
    | rol h l =>
      cases e
      exact .inl ⟨_, o.sub.sql h, em l.length⟩
  | str t =>
    cases s
    obtain ⟨f, rfl⟩ := if_some e
    refine ⟨by rw [S_len]; exact fits_le f, ?_⟩
    rw [S_len]
    cases t <;> rfl
  | non => cases s; cases e; rfl
  | bool b => cases s; cases e; rfl
  | int i => cases s; cases e; rfl
/-- an item of a cell, of data -/
theorem atI_wden {ws : List W} {vs : List V} {i : Int} {w : W} (l : WDenL K c ws vs) (e : atI ws i = some w) : ∃ v, atI vs i = some v ∧ WDen K c w v := by
  obtain ⟨j, e1, e2⟩ := Option.bind_eq_some_iff.mp e
  have get : ∀ {ws : List W} {vs : List V}, WDenL K c ws vs → ∀ (i : Nat) (w : W), ws[i]? = some w → ∃ v, vs[i]? = some v ∧ WDen K c w v := by
    intro ws vs d
    induction d with
    | nil => intro i w q; simp at q
    | cons h l ih =>
      intro i w q
      cases i with
      | zero =>
        simp at q
        subst q
        exact ⟨_, rfl, h⟩
      | succ i => simpa using ih i w (by simpa using q)
  obtain ⟨v, h1, h2⟩ := get l j w e2
  refine ⟨v, ?_, h2⟩
  unfold atI
  rw [← l.length, e1]
  exact h1
theorem idxW_ref (n : Nat) (b : D) (s : Store) : idxW (.ref n) b s = match s[n]? with
    | some (.list ws) => (match b with
      | .int k => (match atI ws k with
        | some w => Res.ok w s
        | none => .bad)
      | _ => .bad)
    | some (.tup ws) => (match b with
      | .int k => (match atI ws k with
        | some w => Res.ok w s
        | none => .bad)
      | _ => .bad)
    | some (.frz d) => (match idxD d b with
      | some y => Res.ok (W.d y) s
      | none => .bad)
    | none => .bad := rfl
theorem post_idx {γ δ : Type} {w : W} {b : D} {x y : V} {k : W → M γ} {R : Cfg → Hp → γ → δ → Prop} {Q : δ → Hp → Prop} {E : EK} {Q' : VK} (o : Ok K c H) (d : WDen K c w x) (sb : See K c.B H b y) (h : Post K mg c H (M.bind (idxW w b) k c.st) R Q E)
    (p : ∀ u v, WDen K c u v → Post K mg c H (k u c.st) R Q E → Q' v H) : rIx K x y H Q' := by
  cases w with
  | d a =>
    have h : Post K mg c H ((match idxD a b with | some y => Res.ok (W.d y) c.st | none => .bad).andThen k) R Q E := h
    cases e : idxD a b with
    | none =>
      rw [e] at h
      exact h.elim
    | some z =>
      rw [e] at h
      exact idx_ok o (See.of o d) sb e fun v dv => p (.d z) v dv h
  | ref n =>
    obtain ⟨a, h1, rfl⟩ := d
    have h : Post K mg c H ((idxW (.ref n) b c.st).andThen k) R Q E := h
    rw [idxW_ref] at h
    cases e : c.st[n]? with
    | none =>
      rw [e] at h
      exact h.elim
    | some cell =>
      rw [e] at h
      cases cell with
      | list ws =>
        obtain ⟨_, vs, q2, q3⟩ := live_list o h1 e
        cases b with
        | int i =>
          cases sb
          have h : Post K mg c H ((match atI ws i with | some w => Res.ok w c.st | none => .bad).andThen k) R Q E := h
          cases ea : atI ws i with
          | none =>
            rw [ea] at h
            exact h.elim
          | some u =>
            rw [ea] at h
            obtain ⟨v, r1, r2⟩ := atI_wden q3 ea
            exact .inl ⟨a, vs, i, v, rfl, rfl, SqL.of q2, r1, p u v r2 h⟩
        | _ => exact h.elim
      | tup ws =>
        obtain ⟨_, vs, q2, q3⟩ := live_tup o h1 e
        cases b with
        | int i =>
          cases sb
          have h : Post K mg c H ((match atI ws i with | some w => Res.ok w c.st | none => .bad).andThen k) R Q E := h
          cases ea : atI ws i with
          | none =>
            rw [ea] at h
            exact h.elim
          | some u =>
            rw [ea] at h
            obtain ⟨v, r1, r2⟩ := atI_wden q3 ea
            exact .inr (.inl ⟨a, vs, i, v, rfl, rfl, SqT.of q2, r1, p u v r2 h⟩)
        | _ => exact h.elim
      | frz d =>
        have h : Post K mg c H ((match idxD d b with | some y => Res.ok (W.d y) c.st | none => .bad).andThen k) R Q E := h
        cases ei : idxD d b with
        | none =>
          rw [ei] at h
          exact h.elim
        | some z =>
          rw [ei] at h
          exact idx_ok o (See.of o (o.cells n a _ h1 e)) sb ei fun v dv => p (.d z) v dv h
/-- len of what is seen at its top -/
theorem len_ok {a : D} {x : V} {n : Nat} {Q : VK} (o : Ok K c H) (s : SeeS K c.B H a x) (e : lenD a = some n) (q : Q (.int (n : Int)) H) : (∃ z : Str, x = .str z ∧ z.length ≤ sizeLine ∧ Q (.int z.length) H) ∨ ∃ p vs, x = .ref p ∧ (SqL K H p vs ∨ SqT K H p vs) ∧ Q (.int vs.length) H := by
  cases a with
  | str t =>
    cases s
    obtain ⟨f, rfl⟩ := if_some e
    exact .inl ⟨_, rfl, by rw [S_len]; exact fits_le f, by rw [S_len]; exact q⟩
  | list ys =>
    obtain ⟨pa, vs, rfl, h, l⟩ := s
    cases e
    rw [l] at q
    exact .inr ⟨pa, vs, rfl, .inl (SqL.of h), q⟩
  | tup ys =>
    obtain ⟨pa, vs, rfl, h, l⟩ := s
    cases e
    rw [l] at q
    exact .inr ⟨pa, vs, rfl, .inr (SqT.of h), q⟩
  | rol ys =>
    cases s with
    | rol h l =>
      cases e
      rw [l.length] at q
      exact .inr ⟨_, _, rfl, .inl (o.sub.sql h), q⟩
  | _ => cases e

theorem boolsL_of {B : Hp} : ∀ {xs : List D} {vs : List V} {bs : List Bool}, DenL K B xs vs → boolsL xs = some bs → vs = bs.map V.bl
  | _, _, _, .nil, e => by cases e; rfl
  | _, _, _, .cons h l, e => by
    cases h <;> first
      | cases e
      | (obtain ⟨r, e2, e3⟩ := Option.map_eq_some_iff.mp e
         subst e3
         rw [boolsL_of l e2]
         rfl)
theorem intsL_of {B : Hp} : ∀ {xs : List D} {vs : List V} {bs : List Int}, DenL K B xs vs → intsL xs = some bs → vs = bs.map V.int
  | _, _, _, .nil, e => by cases e; rfl
  | _, _, _, .cons h l, e => by
    cases h <;> first
      | cases e
      | (obtain ⟨r, e2, e3⟩ := Option.map_eq_some_iff.mp e
         subst e3
         rw [intsL_of l e2]
         rfl)
theorem strsL_of {B : Hp} : ∀ {xs : List D} {vs : List V} {bs : List (List Nat)}, DenL K B xs vs → strsL xs = some bs → vs = (bs.map fun s => (⟨s.toArray⟩ : Str)).map V.str
  | _, _, _, .nil, e => by cases e; rfl
  | _, _, _, .cons h l, e => by
    cases h <;> first
      | cases e
      | (obtain ⟨r, e2, e3⟩ := Option.map_eq_some_iff.mp e
         subst e3
         rw [strsL_of l e2]
         rfl)
theorem items_of {a : D} {x : V} {xs : List D} (o : Ok K c H) (s : See K c.B H a x) (e : items a = some xs) : ∃ p vs, x = .ref p ∧ (SqL K H p vs ∨ SqT K H p vs) ∧ DenL K c.B xs vs := by
  cases a with
  | list ys =>
    obtain ⟨pa, vs, rfl, h, l⟩ := s
    cases e
    exact ⟨pa, vs, rfl, .inl (SqL.of h), l⟩
  | tup ys =>
    cases s with
    | tup h l =>
      cases e
      exact ⟨_, _, rfl, .inr (SqT.of (o.sub _ _ h)), l⟩
  | rol ys =>
    cases s with
    | rol h l =>
      cases e
      exact ⟨_, _, rfl, .inl (o.sub.sql h), l⟩
  | _ => cases e
theorem foldMax_ok : ∀ (ns : List Int) (n : Int), (ns.foldl (fun a b => if b > a then b else a) n) ∈ n :: ns ∧ ∀ y ∈ n :: ns, y ≤ ns.foldl (fun a b => if b > a then b else a) n
  | [], n => by simp
  | m :: ns, n => by
    have ih := foldMax_ok ns (if m > n then m else n)
    rw [List.foldl_cons]
    generalize ns.foldl (fun a b => if b > a then b else a) (if m > n then m else n) = r at ih
    obtain ⟨h1, h2⟩ := ih
    have h0 := h2 _ (List.mem_cons_self ..)
    refine ⟨?_, fun y hy => ?_⟩
    · rcases List.mem_cons.mp h1 with h | h
      · split at h
        · rw [h]; simp
        · rw [h]; simp
      · simp [h]
    · rcases List.mem_cons.mp hy with h | h
      · subst h; split at h0 <;> omega
      · rcases List.mem_cons.mp h with h | h
        · subst h; split at h0 <;> omega
        · exact h2 y (by simp [h])
theorem foldMin_ok : ∀ (ns : List Int) (n : Int), (ns.foldl (fun a b => if b < a then b else a) n) ∈ n :: ns ∧ ∀ y ∈ n :: ns, ns.foldl (fun a b => if b < a then b else a) n ≤ y
  | [], n => by simp
  | m :: ns, n => by
    have ih := foldMin_ok ns (if m < n then m else n)
    rw [List.foldl_cons]
    generalize ns.foldl (fun a b => if b < a then b else a) (if m < n then m else n) = r at ih
    obtain ⟨h1, h2⟩ := ih
    have h0 := h2 _ (List.mem_cons_self ..)
    refine ⟨?_, fun y hy => ?_⟩
    · rcases List.mem_cons.mp h1 with h | h
      · split at h
        · rw [h]; simp
        · rw [h]; simp
      · simp [h]
    · rcases List.mem_cons.mp hy with h | h
      · subst h; split at h0 <;> omega
      · rcases List.mem_cons.mp h with h | h
        · subst h; split at h0 <;> omega
        · exact h2 y (by simp [h])
theorem maxI_ok {ns : List Int} {k : Int} (h : maxI ns = some k) : 0 < ns.length ∧ k ∈ ns ∧ ∀ y ∈ ns, y ≤ k := by
  cases ns with
  | nil => cases h
  | cons n ns =>
    cases h
    exact ⟨by simp, (foldMax_ok ns n).1, (foldMax_ok ns n).2⟩
theorem minI_ok {ns : List Int} {k : Int} (h : minI ns = some k) : 0 < ns.length ∧ k ∈ ns ∧ ∀ y ∈ ns, k ≤ y := by
  cases ns with
  | nil => cases h
  | cons n ns =>
    cases h
    exact ⟨by simp, (foldMin_ok ns n).1, (foldMin_ok ns n).2⟩
theorem insI_perm (n : Int) : ∀ ms : List Int, (insI n ms).Perm (n :: ms)
  | [] => .refl _
  | m :: ms => by
    unfold insI
    split
    · exact .refl _
    · exact ((insI_perm n ms).cons m).trans (.swap ..)
theorem sortI_perm : ∀ ms : List Int, (sortI ms).Perm ms
  | [] => .refl _
  | m :: ms => (insI_perm m _).trans ((sortI_perm ms).cons m)
theorem insI_sorted (n : Int) : ∀ {ms : List Int}, ms.Pairwise (· ≤ ·) → (insI n ms).Pairwise (· ≤ ·)
  | [], _ => by simp [insI]
  | m :: ms, h => by
    unfold insI
    obtain ⟨h1, h2⟩ := List.pairwise_cons.mp h
    split
    · rename_i hn
      refine List.pairwise_cons.mpr ⟨fun y hy => ?_, h⟩
      rcases List.mem_cons.mp hy with e | e
      · rw [e]; exact hn
      · exact Int.le_trans hn (h1 y e)
    · rename_i hn
      refine List.pairwise_cons.mpr ⟨fun y hy => ?_, insI_sorted n h2⟩
      rcases List.mem_cons.mp ((insI_perm n ms).mem_iff.mp hy) with e | e
      · rw [e]; omega
      · exact h1 y e
theorem sortI_sorted : ∀ ms : List Int, (sortI ms).Pairwise (· ≤ ·)
  | [] => .nil
  | m :: ms => insI_sorted m (sortI_sorted ms)
theorem sorted_eq : ∀ {xs ys : List Int}, xs.Perm ys → xs.Pairwise (· ≤ ·) → ys.Pairwise (· ≤ ·) → xs = ys
  | [], ys, p, _, _ => by rw [List.nil_perm.mp p]
  | x :: xs, [], p, _, _ => by have := List.perm_nil.mp p; cases this
  | x :: xs, y :: ys, p, hx, hy => by
    obtain ⟨hx1, hx2⟩ := List.pairwise_cons.mp hx
    obtain ⟨hy1, hy2⟩ := List.pairwise_cons.mp hy
    have e : x = y := by
      have a1 : x ≤ y := by
        rcases List.mem_cons.mp (p.mem_iff.mpr (List.mem_cons_self ..)) with e | e
        · rw [e]; exact Int.le_refl _
        · exact hx1 y e
      have a2 : y ≤ x := by
        rcases List.mem_cons.mp (p.mem_iff.mp (List.mem_cons_self ..)) with e | e
        · rw [e]; exact Int.le_refl _
        · exact hy1 x e
      exact Int.le_antisymm a1 a2
    subst e
    rw [sorted_eq (List.perm_cons _ |>.mp p) hx2 hy2]
theorem intD_den {B : Hp} : ∀ ns : List Int, DenL K B (ns.map D.int) (ns.map V.int)
  | [] => .nil
  | n :: ns => .cons (.int n) (intD_den ns)
def idBi : Bi → Value
  | .len => .builtin "len" | .all => .builtin "all" | .any => .builtin "any" | .int => .type "int" | .str => .type "str" | .list => .type "list"
  | .abs => .builtin "abs" | .max => .builtin "max" | .min => .builtin "min" | .sum => .builtin "sum" | .tuple => .type "tuple" | .maxL => .builtin "max" | .minL => .builtin "min" | .sorted => .builtin "sorted"
def nmBi : Bi → Str
  | .len => "len" | .all => "all" | .any => "any" | .int => "int" | .str => "str" | .list => "list" | .abs => "abs" | .max => "max" | .min => "min" | .sum => "sum" | .tuple => "tuple" | .maxL => "max" | .minL => "min" | .sorted => "sorted"
/-- a builtin's call, by what is seen of its arguments -/
theorem bi_ok {f : Bi} {as : List D} {xs : List V} {z : D} {m : Bool} {Q : VK} {E : EK} (hc : X.calm = true) (eK : X.K = K) (o : Ok K c H) (s : SeeL K c.B H as xs) (e : biD f as = some z) (p : Post K mg c H (alloc m z c.st) (RW K) Q E) :
    ∀ (pins : List (Addr × Obj)) (s : Shared) (σ : L2.St) (us : List Value), Inv X pins σ H s → Vals xs us → wpAny (model X.prog X.w) X.A (call (idBi f) us) (EP X pins σ Q) X.xe s := by
  subst eK
  intro pins sh σ us I r
  cases s with
  | nil => cases f <;> cases e
  | @cons a as x xs s1 s2 =>
    cases s2 with
    | nil =>
      cases f with
      | len =>
        obtain ⟨n, e0, rfl⟩ := Option.map_eq_some_iff.mp (show (lenD a).map (fun (n : Nat) => D.int (n : Int)) = some z from by cases a <;> exact e)
        have q : Q (.int n) H := alloc_old o (by intro _ z; cases z) p (.int _)
        cases a with
        | str t =>
          cases s1
          obtain ⟨f, rfl⟩ := if_some e0
          exact call_len_str pins sh σ H _ us Q I r ⟨_, rfl, by rw [S_len]; exact fits_le f, by rw [S_len]; exact q⟩
        | list ys =>
          obtain ⟨pa, vs, rfl, h, l⟩ := s1
          cases e0
          rw [l.length] at q
          exact call_len_seq pins sh σ H _ us Q I r ⟨pa, vs, rfl, .inl (SqL.of h), q⟩
        | tup ys =>
          cases s1 with
          | tup h l =>
            cases e0
            rw [l.length] at q
            exact call_len_seq pins sh σ H _ us Q I r ⟨_, _, rfl, .inr (SqT.of (o.sub _ _ h)), q⟩
        | rol ys =>
          cases s1 with
          | rol h l =>
            cases e0
            rw [l.length] at q
            exact call_len_seq pins sh σ H _ us Q I r ⟨_, _, rfl, .inl (o.sub.sql h), q⟩
        | _ => cases e0
      | all =>
        cases a with
        | list ys =>
          obtain ⟨pa, vs, rfl, h, l⟩ := s1
          obtain ⟨bs, e0, rfl⟩ := Option.map_eq_some_iff.mp e
          have ev := boolsL_of l e0
          subst ev
          exact cr_all hc pins sh σ H _ us Q I r ⟨pa, bs, rfl, SqL.of h, alloc_old o (by intro _ z; cases z) p (.bool _)⟩
        | _ => cases e
      | any =>
        cases a with
        | list ys =>
          obtain ⟨pa, vs, rfl, h, l⟩ := s1
          obtain ⟨bs, e0, rfl⟩ := Option.map_eq_some_iff.mp e
          have ev := boolsL_of l e0
          subst ev
          exact cr_any hc pins sh σ H _ us Q I r ⟨pa, bs, rfl, SqL.of h, alloc_old o (by intro _ z; cases z) p (.bool _)⟩
        | _ => cases e
      | int =>
        cases a with
        | int i =>
          cases s1
          cases e
          exact call_int1 pins sh σ H _ us Q I r (.inl ⟨i, rfl, alloc_old o (by intro _ z; cases z) p (.int _)⟩)
        | bool k =>
          cases s1
          cases e
          exact call_int1 pins sh σ H _ us Q I r (.inr ⟨k, rfl, alloc_old o (by intro _ z; cases z) p (.int _)⟩)
        | str t =>
          cases s1
          have e : (if decide (t.length ≤ 640) then (intText? ⟨t.toArray⟩).map D.int else none) = some z := e
          by_cases f : t.length ≤ 640
          · rw [decide_eq_true f, if_pos rfl] at e
            obtain ⟨n, e0, rfl⟩ := Option.map_eq_some_iff.mp e
            exact call_int_str pins sh σ H _ us Q I r ⟨_, n, rfl, e0, by rw [S_len]; exact f, alloc_old o (by intro _ z; cases z) p (.int _)⟩
          · rw [decide_eq_false f] at e
            cases e
        | _ => cases e
      | str =>
        cases a with
        | int i =>
          cases s1
          obtain ⟨t, e0, rfl⟩ := Option.map_eq_some_iff.mp e
          obtain ⟨f, rfl⟩ := if_some e0
          have q := alloc_old (v := V.str ⟨(intStr i).toArray⟩) o (by intro _ z; cases z) p (.str _)
          exact call_str_int pins sh σ H _ us Q I r ⟨i, rfl, of_decide_eq_true f, by
            have ez : (⟨(intStr i).toArray⟩ : Str) = Str.ofString (toString i) := S_of _
            rw [ez] at q
            exact q⟩
        | _ => cases e
      | list =>
        obtain ⟨ys, e0, rfl⟩ := Option.map_eq_some_iff.mp (show (items a).map D.list = some z from by cases a <;> exact e)
        obtain ⟨pa, vs, rfl, h, l⟩ := items_of o s1 e0
        exact call_list_of pins sh σ H _ us Q I r ⟨pa, vs, rfl, h, alloc_new o p l⟩
      | abs =>
        cases a with
        | int i =>
          cases s1
          cases e
          exact call_abs pins sh σ H _ us Q I r ⟨i, rfl, alloc_old o (by intro _ z; cases z) p (.int _)⟩
        | _ => cases e
      | sum =>
        cases a with
        | list ys =>
          obtain ⟨pa, vs, rfl, h, l⟩ := s1
          obtain ⟨bs, e0, rfl⟩ := Option.map_eq_some_iff.mp e
          have ev := intsL_of l e0
          subst ev
          exact cr_sum hc pins sh σ H _ us Q I r ⟨pa, bs, rfl, SqL.of h, alloc_old o (by intro _ z; cases z) p (.int _)⟩
        | _ => cases e
      | tuple =>
        have old : ∀ y, alloc m (.tup y) c.st = .ok (.d (.tup y)) c.st := fun y => by cases m <;> rfl
        cases a with
        | list ys =>
          obtain ⟨pa, vs, rfl, h, l⟩ := s1
          cases e
          rw [old] at p
          exact call_tuple_of pins sh σ H _ us Q I r ⟨pa, vs, rfl, .inl ⟨SqL.of h, tup_new o p l⟩⟩
        | rol ys =>
          cases s1 with
          | rol h l =>
            cases e
            rw [old] at p
            exact call_tuple_of pins sh σ H _ us Q I r ⟨_, _, rfl, .inl ⟨o.sub.sql h, tup_new o p l⟩⟩
        | tup ys =>
          cases s1 with
          | tup h l =>
            cases e
            rw [old] at p
            exact call_tuple_of pins sh σ H _ us Q I r ⟨_, _, rfl, .inr ⟨SqT.of (o.sub _ _ h), done_d o p (.tup h l)⟩⟩
        | _ => cases e
      | maxL =>
        cases a with
        | list ys =>
          obtain ⟨pa, vs, rfl, h, l⟩ := s1
          obtain ⟨bs, e0, e1⟩ := Option.bind_eq_some_iff.mp (show ((intsL ys).bind fun ns => (maxI ns).map D.int) = some z from e)
          obtain ⟨k, e2, rfl⟩ := Option.map_eq_some_iff.mp e1
          have ev := intsL_of l e0
          subst ev
          obtain ⟨g1, g2, g3⟩ := maxI_ok e2
          exact cr_max hc pins sh σ H _ us Q I r ⟨pa, bs, rfl, SqL.of h, g1, fun w w1 w2 => by
            have : w = k := Int.le_antisymm (g3 w w1) (w2 k g2)
            rw [this]
            exact alloc_old o (by intro _ z; cases z) p (.int _)⟩
        | _ => cases e
      | minL =>
        cases a with
        | list ys =>
          obtain ⟨pa, vs, rfl, h, l⟩ := s1
          obtain ⟨bs, e0, e1⟩ := Option.bind_eq_some_iff.mp (show ((intsL ys).bind fun ns => (minI ns).map D.int) = some z from e)
          obtain ⟨k, e2, rfl⟩ := Option.map_eq_some_iff.mp e1
          have ev := intsL_of l e0
          subst ev
          obtain ⟨g1, g2, g3⟩ := minI_ok e2
          exact cr_min hc pins sh σ H _ us Q I r ⟨pa, bs, rfl, SqL.of h, g1, fun w w1 w2 => by
            have : w = k := Int.le_antisymm (w2 k g2) (g3 w w1)
            rw [this]
            exact alloc_old o (by intro _ z; cases z) p (.int _)⟩
        | _ => cases e
      | sorted =>
        cases a with
        | list ys =>
          obtain ⟨pa, vs, rfl, h, l⟩ := s1
          obtain ⟨bs, e0, rfl⟩ := Option.map_eq_some_iff.mp e
          have ev := intsL_of l e0
          subst ev
          refine cr_sortedI pins sh σ H _ us Q I r ⟨pa, bs, rfl, SqL.of h, fun ns' pp h1 h2 hp => ?_⟩
          have en : ns' = sortI bs := sorted_eq (h1.trans (sortI_perm bs).symm) h2 (sortI_sorted bs)
          subst en
          exact alloc_new o p (intD_den _) pp hp
        | _ => cases e
      | _ => cases a <;> cases e
    | @cons b bs y ys s2 s3 =>
      cases s3 with
      | nil =>
        cases f with
        | max =>
          cases a with
          | int i =>
            cases b with
            | int j =>
              cases s1
              cases s2
              cases e
              exact call_max2 hc pins sh σ H _ us Q I r ⟨i, j, rfl, alloc_old o (by intro _ z; cases z) p (.int _)⟩
            | _ => cases e
          | _ => cases b <;> cases e
        | min =>
          cases a with
          | int i =>
            cases b with
            | int j =>
              cases s1
              cases s2
              cases e
              exact call_min2 hc pins sh σ H _ us Q I r ⟨i, j, rfl, alloc_old o (by intro _ z; cases z) p (.int _)⟩
            | _ => cases e
          | _ => cases b <;> cases e
        | _ => cases a <;> cases e
      | cons _ _ => cases f <;> cases a <;> first | cases e | (cases b <;> cases e)

def nmMt : Mt → Str
  | .join => "join" | .split => "split" | .index => "index" | .find => "find" | .startswith => "startswith"
def idMt : Mt → String
  | .join => "str.join" | .split => "str.split" | .index => "str.index" | .find => "str.find" | .startswith => "str.startswith"
theorem len_sum : ∀ ps : List (List Nat), ((ps.map fun s => (⟨s.toArray⟩ : Str)).map (·.length)).sum = (ps.map (·.length)).sum
  | [] => rfl
  | p :: ps => by
    rw [List.map_cons, List.map_cons, List.map_cons, List.sum_cons, List.sum_cons, S_len, len_sum ps]
theorem join_S (sep : List Nat) (ps : List (List Nat)) : PySem.Txt.join ⟨sep.toArray⟩ (ps.map fun s => (⟨s.toArray⟩ : Str)) = ⟨(joinC sep ps).toArray⟩ := by
  rw [TL.join_eq]
  apply TL.ext_tl
  rw [TL.tl_join]
  show TL.joinL sep _ = TL.joinL sep ps
  rw [List.map_map]
  congr 1
  exact (List.map_congr_left fun x _ => rfl).trans (List.map_id _)
theorem split_S {s sep : List Nat} (h1 : sep ≠ []) (h2 : sep.all (· < 256) = true) : PySem.Txt.split ⟨s.toArray⟩ ⟨sep.toArray⟩ = (splitC sep s).map fun t => (⟨t.toArray⟩ : Str) := by
  apply TL.map_tl_inj
  rw [TL.split_spl _ _ h1 (TL.kind_ok (by simpa using h2)), List.map_map]
  symm
  exact (List.map_congr_left fun x _ => rfl).trans (List.map_id _)
theorem splitC_len (sep : List Nat) : ∀ (k : Nat) (acc s : List Nat), (TL.spl sep k acc s).length ≤ s.length + 1
  | k, acc, [] => by rw [TL.spl_nil]; simp
  | 0, acc, ch :: s => by
    by_cases h : TL.pre sep (ch :: s) = true
    · rw [TL.spl_hit h]
      have := splitC_len sep (sep.length - 1) [] s
      simp
      omega
    · rw [TL.spl_miss (by simpa using h)]
      have := splitC_len sep 0 (acc ++ [ch]) s
      simp
      omega
  | k + 1, acc, ch :: s => by
    have := splitC_len sep k acc s
    show (TL.spl sep k acc s).length ≤ _
    simp
    omega
theorem strD_den {B : Hp} : ∀ ps : List (List Nat), DenL K B (ps.map D.str) ((ps.map fun s => (⟨s.toArray⟩ : Str)).map V.str)
  | [] => .nil
  | p :: ps => .cons (.str p) (strD_den ps)
theorem starts_S (s p : List Nat) : PySem.Txt.startswith ⟨s.toArray⟩ ⟨p.toArray⟩ = decide (s.take p.length = p) := by
  unfold PySem.Txt.startswith
  rw [StrLaws.subAt_eq, S_len, S_len]
  show (decide (0 + p.length ≤ s.length) && ((s.drop 0).take p.length == p)) = _
  rw [List.drop_zero, Nat.zero_add]
  by_cases h : s.take p.length = p
  · rw [decide_eq_true h, h]
    have : p.length ≤ s.length := by
      have := congrArg List.length h
      rw [List.length_take] at this
      omega
    simp [this]
  · rw [decide_eq_false h]
    have : (s.take p.length == p) = false := beq_eq_false_iff_ne.mpr h
    rw [this, Bool.and_false]
/-- a method of a text, by what is seen -/
theorem mt_ok {f : Mt} {a : D} {as : List D} {x : V} {xs : List V} {z : D} {m : Bool} {Q : VK} {E : EK} (eK : X.K = K) (o : Ok K c H) (sx : See K c.B H a x) (s : SeeL K c.B H as xs) (e : mtD f a as = some z) (p : Post K mg c H (alloc m z c.st) (RW K) Q E) :
    (∃ t, x = .str t) ∧ ∀ (pins : List (Addr × Obj)) (s : Shared) (σ : L2.St) (v : Value) (us : List Value), Inv X pins σ H s → RelV x v → Vals xs us → wpAny (model X.prog X.w) X.A (call (.builtin (idMt f)) (v :: us)) (EP X pins σ Q) X.xe s := by
  subst eK
  cases a with
  | str t =>
    cases sx
    refine ⟨⟨_, rfl⟩, ?_⟩
    intro pins sh σ v us I rx r
    cases s with
    | nil => cases e
    | @cons b bs y ys s1 s2 =>
      cases s2 with
      | nil =>
        cases f with
        | join =>
          obtain ⟨l, e1, e0⟩ := Option.bind_eq_some_iff.mp (show ((items b).bind fun l => (strsL l).bind fun ps => if fits ((ps.map (·.length)).sum + ps.length * t.length) then some (D.str (joinC t ps)) else none) = some z from e)
          obtain ⟨ps, e2, e00⟩ := Option.bind_eq_some_iff.mp e0
          obtain ⟨f, rfl⟩ := if_some e00
          obtain ⟨pa, vs, rfl, h, dl⟩ := items_of o s1 e1
          have ev := strsL_of dl e2
          subst ev
          refine mt_join pins sh σ H _ _ v us Q I rx r ⟨_, pa, ps.map fun s => (⟨s.toArray⟩ : Str), rfl, rfl, h, ?_, ?_⟩
          · rw [len_sum, List.length_map, S_len]
            exact of_decide_eq_true f
          · rw [join_S]
            exact alloc_old o (by intro _ z; cases z) p (.str _)
        | split =>
          cases b with
          | str sep =>
            cases s1
            obtain ⟨f, rfl⟩ := if_some e
            obtain ⟨f1, f2, f3⟩ := and3 f
            have ne : sep ≠ [] := by
              intro z
              subst z
              cases f1
            refine mt_split pins sh σ H _ _ v us Q I rx r ⟨_, _, rfl, rfl, ?_, ?_, ?_⟩
            · rw [S_len]
              cases sep with
              | nil => exact absurd rfl ne
              | cons _ _ => rfl
            · rw [S_len]
              exact fits_le f3
            · rw [split_S ne f2]
              exact alloc_new o p (strD_den _)
          | _ => cases e
        | startswith =>
          cases b with
          | str q =>
            cases s1
            cases e
            exact mt_startswith pins sh σ H _ _ v us Q I rx r ⟨_, _, rfl, rfl, by rw [starts_S]; exact alloc_old o (by intro _ z; cases z) p (.bool _)⟩
          | _ => cases e
        | find =>
          cases b with
          | str q =>
            cases s1
            match q, e with
            | [ch], e =>
              cases e
              refine mt_find pins sh σ H _ _ v us Q I rx r ⟨_, _, rfl, rfl, ?_⟩
              have ez : PySem.Txt.find ⟨t.toArray⟩ ⟨[ch].toArray⟩ = if ch ∈ t then (t.idxOf ch : Int) else -1 := by
                unfold PySem.Txt.find
                rw [occ_sign]
                split
                · rename_i h
                  split at h
                  · cases h
                    rename_i hm
                    rw [if_pos hm]
                  · cases h
                · rename_i h
                  split at h
                  · cases h
                  · rename_i hm
                    rw [if_neg hm]
              rw [ez]
              exact alloc_old o (by intro _ z; cases z) p (.int _)
            | [], e => cases e
            | _ :: _ :: _, e => cases e
          | _ => cases e
        | index =>
          cases b with
          | str q =>
            cases s1
            match q, e with
            | [ch], e =>
              obtain ⟨f, rfl⟩ := if_some e
              have hm : ch ∈ t := of_decide_eq_true f
              obtain ⟨tk, rfl⟩ := rx
              cases r with
              | cons r1 rs =>
                cases rs
                obtain ⟨tk2, rfl⟩ := r1
                have oc := occ_sign t ch
                rw [if_pos hm] at oc
                exact PySem.SC.index oc ⟨.int (t.idxOf ch : Nat), H, I.tok _, ⟨_, rfl⟩, alloc_old o (by intro _ z; cases z) p (.int _)⟩
            | [], e => cases e
            | _ :: _ :: _, e => cases e
          | _ => cases e
      | cons _ _ => cases e
  | _ => cases e
def tyV' : Ty → String
  | .bool => "bool" | .int => "int" | .str => "str" | .list => "list" | .tuple => "tuple"
end
end Cr

namespace Cr
open PySem L2
theorem pe_wk {X : Cx} {e : Expr} {t t' : TE} (h : PE X e t) (w : ∀ σ H Q, t' σ H Q → t σ H Q) : PE X e t' := ⟨fun pins s σ H Q I q => h.run pins s σ H Q I (w σ H Q q)⟩
theorem pt_wk {X : Cx} {e : Expr} {t t' : TT} (h : PT X e t) (w : ∀ σ H Q, t' σ H Q → t σ H Q) : PT X e t' := ⟨fun pins s σ H Q I q => h.run pins s σ H Q I (w σ H Q q)⟩
theorem pw_wk {X : Cx} {e : Expr} {t t' : TT} (h : PW X e t) (w : ∀ σ H Q, t' σ H Q → t σ H Q) : PW X e t' := ⟨fun wh pins s σ H Q I q => h.run wh pins s σ H Q I (w σ H Q q)⟩
theorem pa_wk {X : Cx} {e : List Expr} {t t' : TA} (h : PA X e t) (w : ∀ σ H Q, t' σ H Q → t σ H Q) : PA X e t' := ⟨fun pos pins s σ H Q I q => h.run pos pins s σ H Q I (w σ H Q q)⟩
theorem pi_wk {X : Cx} {tg e : Expr} {t t' : TI} (h : PI X tg e t) (w : ∀ σ H Q, t' σ H Q → t σ H Q) : PI X tg e t' := ⟨fun pins s σ H Q I q => h.run pins s σ H Q I (w σ H Q q)⟩
theorem po_wk {X : Cx} {e : Option Expr} {t t' : TO} (h : PO X e t) (w : ∀ σ H Q, t' σ H Q → t σ H Q) : PO X e t' := ⟨fun pins s σ H Q I q => h.run pins s σ H Q I (w σ H Q q)⟩
theorem pi_or {X : Cx} {tg e : Expr} {t u : TI} (h : PI X tg e t) (k : PI X tg e u) : PI X tg e (fun σ H R => t σ H R ∨ u σ H R) := ⟨fun pins s σ H R I q => by
  rcases q with q | q
  · exact h.run pins s σ H R I q
  · exact k.run pins s σ H R I q⟩
theorem pe_none {X : Cx} {e : Expr} {t : TE} (w : ∀ σ H Q, ¬ t σ H Q) : PE X e t := ⟨fun _ _ σ H Q _ q => (w σ H Q q).elim⟩
theorem pt_none {X : Cx} {e : Expr} {t : TT} (w : ∀ σ H Q, ¬ t σ H Q) : PT X e t := ⟨fun _ _ σ H Q _ q => (w σ H Q q).elim⟩
theorem pw_none {X : Cx} {e : Expr} {t : TT} (w : ∀ σ H Q, ¬ t σ H Q) : PW X e t := ⟨fun _ _ _ σ H Q _ q => (w σ H Q q).elim⟩
theorem pa_none {X : Cx} {e : List Expr} {t : TA} (w : ∀ σ H Q, ¬ t σ H Q) : PA X e t := ⟨fun _ _ _ σ H Q _ q => (w σ H Q q).elim⟩
theorem pi_none {X : Cx} {tg e : Expr} {t : TI} (w : ∀ σ H Q, ¬ t σ H Q) : PI X tg e t := ⟨fun _ _ σ H Q _ q => (w σ H Q q).elim⟩
theorem bind_assoc' {α β γ : Type} (m : M α) (f : α → M β) (g : β → M γ) : M.bind (M.bind m f) g = M.bind m fun a => M.bind (f a) g := by
  funext s
  show ((m s).andThen f).andThen g = (m s).andThen fun a => M.bind (f a) g
  cases m s <;> rfl

abbrev RL (K : KF) : Cfg → Hp → List W → List V → Prop := fun c _ ws vs => WDenL K c ws vs
abbrev RB : Cfg → Hp → Bool → Bool → Prop := fun _ _ a b => a = b
abbrev RO : Cfg → Hp → Option Int → Option Int → Prop := fun _ _ a b => a = b
/-- the items that a walk gives from any later state -/
def Walks (K : KF) (J : It) (c : Cfg) (H : Hp) (xs : List D) : Prop := ∀ (i : Nat) c' H', Ext c H c' H' → Ok K c' H' →
  (i = xs.length → J.stop i H') ∧ ∀ x, xs[i]? = some x → J.go i H' ∧ ∀ v H2, J.yld i H' v H2 → ∃ c2, c2.st = c'.st ∧ Ext c' H' c2 H2 ∧ Ok K c2 H2 ∧ Den K c2.B x v
abbrev RI (K : KF) : Cfg → Hp → List D → It → Prop := fun c H xs J => Walks K J c H xs
section
variable {K : KF} {mg : Str → Option Value} {Wx : WX}
theorem tG_bad {α β : Type} {m : Env → M α} {R : Cfg → Hp → α → β → Prop} (h : ∀ ρ s, m ρ s = .bad) : ∀ σ H Q, ¬ tG K mg Wx m R σ H Q := fun σ H Q ⟨c, ρ, _, _, p⟩ => by
  rw [h] at p
  exact p
end
abbrev vG (X : Cx) (Wx : WX) (m : Env → M W) : TE := tG X.K X.mg Wx m (RW X.K)
abbrev lG (X : Cx) (Wx : WX) (m : Env → M (List W)) : TA := tG X.K X.mg Wx m (RL X.K)
abbrev bG (X : Cx) (Wx : WX) (m : Env → M Bool) : TT := tG X.K X.mg Wx m RB
abbrev oG (X : Cx) (Wx : WX) (m : Env → M (Option Int)) : TO := tG X.K X.mg Wx m RO
abbrev iG (X : Cx) (Wx : WX) (m : Env → M (List D)) : TI := tG X.K X.mg Wx m (RI X.K)
/-- a test that is its value's truth -/
def Plain (X : Cx) (e : Expr) : Prop := ∀ whole, isTrue e X.env whole = (do let v ← whole; standAt e.pos; holding [v] (truthy v))
section
variable {X : Cx} {Wx : WX} {a b d e i : Expr} {es rest : List Expr} {pos : Pos} {va vb vd : Env → M W} {ta tb : Env → M Bool}
theorem star_ne {env : PySem.Env} (h : isStar e = false) : starEach (e :: es) env = (false, eval e env) :: starEach es env := by
  cases e <;> first | rfl | cases h
theorem star_plain {env : PySem.Env} : ∀ {es : List Expr}, noStar es = true → (backTo pos (starEach es env)).any (·.1) = false
  | [], _ => rfl
  | e :: es, h => by
    have h : (!isStar e && noStar es) = true := h
    obtain ⟨h1, h2⟩ := and2 h
    rw [star_ne (by simpa using h1)]
    show (false || (backTo pos (starEach es env)).any (·.1)) = false
    rw [star_plain h2]
    rfl
/-- expressions and what tells them, one by one -/
inductive PEs (X : Cx) (Wx : WX) : List Expr → List Sm → Prop
  | nil : PEs X Wx [] []
  | cons {e : Expr} {es : List Expr} {m : Sm} {ms : List Sm} : isStar e = false → PE X e (vG X Wx m.v) → PEs X Wx es ms → PEs X Wx (e :: es) (m :: ms)
theorem PEs.plain : ∀ {es : List Expr} {ms : List Sm}, PEs X Wx es ms → noStar es = true
  | _, _, .nil => rfl
  | _, _, .cons h _ r => by
    show (!isStar _ && noStar _) = true
    rw [h, r.plain]
    rfl
theorem s_args : ∀ {es : List Expr} {ms : List Sm}, PEs X Wx es ms → PA X es (lG X Wx (smL ms))
  | _, _, .nil => pa_wk pa_nil fun σ H Q ⟨c, ρ, o, e, p⟩ => p.now o .nil
  | _, _, .cons hs h r => pa_wk (pa_cons h (s_args r) (star_ne hs)) fun σ H Q ⟨c, ρ, o, e, p⟩ => (tG.bind o e rfl p).imp fun x H1 ⟨c1, w, e1, o1, er1, d1, p1⟩ =>
      (tG.bind o1 er1 rfl p1).imp fun xs H2 ⟨c2, ws, e2, o2, er2, d2, p2⟩ => p2.now o2 (.cons (d1.mono e2) d2)
theorem s_var {k : Nat} {x : Str} (hN : X.N[k]? = some x) (hv : Vis X.env.scope x) (h1 : (x == ("__debug__" : Str)) = false) (h2 : (x == ("__classdict__" : Str)) = false) : PE X (.Name x pos) (vG X Wx (getVar k)) :=
  pe_wk (pe_var hN hv h1 h2) fun σ H Q ⟨c, ρ, o, e, p⟩ => by
    have p : Post X.K X.mg c H (match ρ[k]? with | some (some w) => Res.ok w c.st | _ => .bad) _ _ _ := p
    split at p
    · rename_i w hw
      obtain ⟨v, q1, q2⟩ := e.2 k w hw
      exact ⟨v, q1, p.now o q2⟩
    · exact p.elim
theorem s_glob {x : Str} {y : D} {u : Value} {v : V} (hg : Gl X x) (hm : X.mg x = some u) (r : RelV v u) (hd : ∀ B, Den X.K B y v) (h1 : (x == ("__debug__" : Str)) = false) : PE X (.Name x pos) (vG X Wx fun _ => M.pure (.d y)) :=
  pe_wk (pe_glob hg hm r h1) fun σ H Q ⟨c, ρ, o, e, p⟩ => p.now (b := v) o (hd _)
theorem s_con {k : Const} {y : D} {j : Nat} (h : conD k = some y) : PE X (.Constant k j pos) (vG X Wx fun _ => M.pure (.d y)) := by
  cases k with
  | none => cases h; exact pe_wk pe_non fun σ H Q ⟨c, ρ, o, e, p⟩ => p.now (b := V.non) o .non
  | bool b => cases h; exact pe_wk pe_bl fun σ H Q ⟨c, ρ, o, e, p⟩ => p.now (b := V.bl b) o (.bool b)
  | int i => cases h; exact pe_wk pe_int fun σ H Q ⟨c, ρ, o, e, p⟩ => p.now (b := V.int i) o (.int i)
  | str s =>
    cases h
    refine pe_wk pe_str fun σ H Q ⟨c, ρ, o, e, p⟩ => ?_
    have q := p.now (b := V.str ⟨s.cps.toList.toArray⟩) o (.str s.cps.toList)
    rw [S_of] at q
    exact q
  | _ => cases h
theorem s_tup {ms : List Sm} {j : Nat} (h : PA X es (lG X Wx (smL ms))) : PE X (.Tuple es j pos) (vG X Wx fun ρ => M.bind (smL ms ρ) fun ws => M.bind (freezes ws) fun xs => M.bind (guard (fits xs.length)) fun _ => M.pure (.d (.tup xs))) :=
  pe_wk (pe_tup h) fun σ H Q ⟨c, ρ, o, e, p⟩ => (tG.bind o e rfl p).imp fun vs H1 ⟨c1, ws, e1, o1, er1, d1, p1⟩ => by
    obtain ⟨c2, xs, e2, o2, d2, p2⟩ := post_freezes o1 d1 p1
    obtain ⟨f, p2⟩ := post_guard p2
    exact ⟨by rw [← d2.length]; exact fits_le f, tup_new o2 p2 d2⟩
theorem s_list {m : Bool} {ms : List Sm} (h : PA X es (lG X Wx (smL ms))) : PE X (.List es pos) (vG X Wx fun ρ => M.bind (smL ms ρ) fun ws => M.bind (freezes ws) fun xs => M.bind (guard (fits xs.length)) fun _ => alloc m (.list xs)) :=
  pe_wk (pe_lst h) fun σ H Q ⟨c, ρ, o, e, p⟩ => (tG.bind o e rfl p).imp fun vs H1 ⟨c1, ws, e1, o1, er1, d1, p1⟩ => by
    obtain ⟨c2, xs, e2, o2, d2, p2⟩ := post_freezes o1 d1 p1
    obtain ⟨f, p2⟩ := post_guard p2
    exact ⟨by rw [← d2.length]; exact fits_le f, alloc_new o2 p2 d2⟩
theorem s_listw {ms : List Sm} (h : PA X es (lG X Wx (smL ms))) : PE X (.List es pos) (vG X Wx fun ρ => M.bind (smL ms ρ) fun ws => M.bind (guard (fits ws.length)) fun _ => allocL ws) :=
  pe_wk (pe_lst h) fun σ H Q ⟨c, ρ, o, e, p⟩ => (tG.bind o e rfl p).imp fun vs H1 ⟨c1, ws, e1, o1, er1, d1, p1⟩ => by
    have d1 : WDenL X.K c1 ws vs := d1
    obtain ⟨f, p2⟩ := post_guard p1
    exact ⟨by rw [← d1.length]; exact fits_le f, allocL_new o1 p2 d1⟩
theorem s_tupw {ms : List Sm} {j : Nat} (h : PA X es (lG X Wx (smL ms))) : PE X (.Tuple es j pos) (vG X Wx fun ρ => M.bind (smL ms ρ) fun ws => M.bind (guard (fits ws.length)) fun _ => allocT ws) :=
  pe_wk (pe_tup h) fun σ H Q ⟨c, ρ, o, e, p⟩ => (tG.bind o e rfl p).imp fun vs H1 ⟨c1, ws, e1, o1, er1, d1, p1⟩ => by
    have d1 : WDenL X.K c1 ws vs := d1
    obtain ⟨f, p2⟩ := post_guard p1
    exact ⟨by rw [← d1.length]; exact fits_le f, allocT_new o1 p2 d1⟩
theorem s_bin {op : Operator} {m : Bool} (ha : PE X a (vG X Wx va)) (hb : PE X b (vG X Wx vb)) :
    PE X (.BinOp a op b pos) (vG X Wx fun ρ => M.bind (va ρ) fun x => M.bind (vb ρ) fun y => M.bind (peek x) fun x => M.bind (peek y) fun y => M.bind (lift (binD op x y)) fun z => alloc m z) :=
  pe_wk (pe_op (op_bin op) ha hb) fun σ H Q ⟨c, ρ, o, e, p⟩ => (tG.bind o e rfl p).imp fun x H1 ⟨c1, w1, e1, o1, er1, d1, p1⟩ => (tG.bind o1 er1 rfl p1).imp fun y H2 ⟨c2, w2, e2, o2, er2, d2, p2⟩ => by
    obtain ⟨a, sa, p2⟩ := post_peek o2 (d1.mono e2) p2
    obtain ⟨b, sb, p2⟩ := post_peek o2 d2 p2
    obtain ⟨z, ez, p2⟩ := post_lift p2
    exact bin_ok o2 sa sb ez p2
theorem s_un {op : UnaryOp} (ha : PE X a (vG X Wx va)) : PE X (.UnaryOp op a pos) (vG X Wx fun ρ => M.bind (va ρ) fun x => M.bind (peek x) fun x => M.bind (lift (unD op x)) fun z => M.pure (.d z)) :=
  pe_wk (pe_un (op_un op) ha) fun σ H Q ⟨c, ρ, o, e, p⟩ => (tG.bind o e rfl p).imp fun x H1 ⟨c1, w1, e1, o1, er1, d1, p1⟩ => by
    obtain ⟨a, sa, p1⟩ := post_peek o1 d1 p1
    obtain ⟨z, ez, p1⟩ := post_lift p1
    exact un_ok sa ez fun v dv => done_d o1 p1 dv
theorem s_cmp {op : CmpOp} (hu : X.A.units + 64 < cLine) (ha : PE X a (vG X Wx va)) (hb : PE X b (vG X Wx vb)) (hm : behindInMarks op b = false) :
    PE X (.Compare a [op] [b] pos) (vG X Wx fun ρ => M.bind (va ρ) fun x => M.bind (vb ρ) fun y => M.bind (peek x) fun x => M.bind (peek y) fun y => M.bind (lift (cmpD op x y)) fun z => M.pure (.d (.bool z))) :=
  pe_wk (pe_cmpR (op_cmp hu op) ha hb hm) fun σ H Q ⟨c, ρ, o, e, p⟩ => (tG.bind o e rfl p).imp fun x H1 ⟨c1, w1, e1, o1, er1, d1, p1⟩ => (tG.bind o1 er1 rfl p1).imp fun y H2 ⟨c2, w2, e2, o2, er2, d2, p2⟩ => by
    obtain ⟨a, sa, p2⟩ := post_peek o2 (d1.mono e2) p2
    obtain ⟨b, sb, p2⟩ := post_peek o2 d2 p2
    obtain ⟨z, ez, p2⟩ := post_lift p2
    exact cmp_ok o2 sa sb ez (done_d o2 p2 (.bool z))
theorem s_cmpT {op : CmpOp} (hu : X.A.units + 64 < cLine) (ha : PE X a (vG X Wx va)) (hb : PE X b (vG X Wx vb)) (hm : behindInMarks op b = false) :
    PT X (.Compare a [op] [b] pos) (bG X Wx (vT fun ρ => M.bind (va ρ) fun x => M.bind (vb ρ) fun y => M.bind (peek x) fun x => M.bind (peek y) fun y => M.bind (lift (cmpD op x y)) fun z => M.pure (.d (.bool z)))) :=
  pt_wk (pt_cmpR (op_cmp hu op) ha hb hm) fun σ H Q ⟨c, ρ, o, e, p⟩ => by
    unfold vT at p
    simp only [bind_assoc'] at p
    refine (tG.bind o e rfl p).imp fun x H1 ⟨c1, w1, e1, o1, er1, d1, p1⟩ => (tG.bind o1 er1 rfl p1).imp fun y H2 ⟨c2, w2, e2, o2, er2, d2, p2⟩ => ?_
    obtain ⟨a, sa, p2⟩ := post_peek o2 (d1.mono e2) p2
    obtain ⟨b, sb, p2⟩ := post_peek o2 d2 p2
    obtain ⟨z, ez, p2⟩ := post_lift p2
    exact cmp_ok o2 sa sb ez ⟨z, rfl, p2.now (b := z) o2 rfl⟩
theorem s_cmp2 {op op2 : CmpOp} (hu : X.A.units + 64 < cLine) (ha : PE X a (vG X Wx va)) (hb : PE X b (vG X Wx vb)) (hd : PE X d (vG X Wx vd)) (hm : behindInMarks op2 d = false) :
    PE X (.Compare a [op, op2] [b, d] pos) (vG X Wx fun ρ => M.bind (va ρ) fun x => M.bind (vb ρ) fun y => M.bind (peek x) fun x => M.bind (peek y) fun y' => M.bind (lift (cmpD op x y')) fun z =>
      if z then M.bind (vd ρ) fun w => M.bind (peek y) fun y => M.bind (peek w) fun w => M.bind (lift (cmpD op2 y w)) fun z => M.pure (.d (.bool z)) else M.pure (.d (.bool false))) :=
  pe_wk (pe_chain (op_cmp hu op) (op_cmp hu op2) ha hb hd hm) fun σ H Q ⟨c, ρ, o, e, p⟩ => (tG.bind o e rfl p).imp fun x H1 ⟨c1, w1, e1, o1, er1, d1, p1⟩ => (tG.bind o1 er1 rfl p1).imp fun y H2 ⟨c2, w2, e2, o2, er2, d2, p2⟩ => by
    obtain ⟨a, sa, p2⟩ := post_peek o2 (d1.mono e2) p2
    obtain ⟨b, sb, p2⟩ := post_peek o2 d2 p2
    obtain ⟨z, ez, p2⟩ := post_lift p2
    refine cmp_ok o2 sa sb ez ⟨z, rfl, ?_⟩
    cases z with
    | false => exact done_d o2 p2 (.bool false)
    | true =>
      refine (tG.bind o2 er2 rfl p2).imp fun u H3 ⟨c3, w3, e3, o3, er3, d3, p3⟩ => ?_
      obtain ⟨b, sb, p3⟩ := post_peek o3 (d2.mono e3) p3
      obtain ⟨d, sd, p3⟩ := post_peek o3 d3 p3
      obtain ⟨z, ez, p3⟩ := post_lift p3
      exact cmp_ok o3 sb sd ez (done_d o3 p3 (.bool z))
theorem ite_bind {α β : Type} {b : Prop} [Decidable b] (x y : M α) (k : α → M β) : M.bind (if b then x else y) k = if b then M.bind x k else M.bind y k := by
  split <;> rfl
theorem s_cmp2T {op op2 : CmpOp} (hu : X.A.units + 64 < cLine) (ha : PE X a (vG X Wx va)) (hb : PE X b (vG X Wx vb)) (hd : PE X d (vG X Wx vd)) (hm : behindInMarks op2 d = false) :
    PT X (.Compare a [op, op2] [b, d] pos) (bG X Wx (vT fun ρ => M.bind (va ρ) fun x => M.bind (vb ρ) fun y => M.bind (peek x) fun x => M.bind (peek y) fun y' => M.bind (lift (cmpD op x y')) fun z =>
      if z then M.bind (vd ρ) fun w => M.bind (peek y) fun y => M.bind (peek w) fun w => M.bind (lift (cmpD op2 y w)) fun z => M.pure (.d (.bool z)) else M.pure (.d (.bool false)))) :=
  pt_wk (pt_chain (op_cmp hu op) (op_cmp hu op2) ha hb hd hm) fun σ H Q ⟨c, ρ, o, e, p⟩ => by
    unfold vT at p
    simp only [bind_assoc', ite_bind] at p
    refine (tG.bind o e rfl p).imp fun x H1 ⟨c1, w1, e1, o1, er1, d1, p1⟩ => (tG.bind o1 er1 rfl p1).imp fun y H2 ⟨c2, w2, e2, o2, er2, d2, p2⟩ => ?_
    obtain ⟨a, sa, p2⟩ := post_peek o2 (d1.mono e2) p2
    obtain ⟨b, sb, p2⟩ := post_peek o2 d2 p2
    obtain ⟨z, ez, p2⟩ := post_lift p2
    refine cmp_ok o2 sa sb ez ⟨z, rfl, ?_⟩
    cases z with
    | false => exact ⟨false, rfl, p2.now (b := false) o2 rfl⟩
    | true =>
      refine (tG.bind o2 er2 rfl p2).imp fun u H3 ⟨c3, w3, e3, o3, er3, d3, p3⟩ => ?_
      obtain ⟨b, sb, p3⟩ := post_peek o3 (d2.mono e3) p3
      obtain ⟨d, sd, p3⟩ := post_peek o3 d3 p3
      obtain ⟨z, ez, p3⟩ := post_lift p3
      exact cmp_ok o3 sb sd ez ⟨z, rfl, p3.now (b := z) o3 rfl⟩
theorem s_truth (ha : PE X a (vG X Wx va)) (hp : Plain X a) : PT X a (bG X Wx (vT va)) :=
  pt_wk (pt_truth ha hp) fun σ H Q ⟨c, ρ, o, e, p⟩ => (tG.bind o e rfl p).imp fun x H1 ⟨c1, w1, e1, o1, er1, d1, p1⟩ => by
    obtain ⟨a, sa, p1⟩ := post_peekS o1 d1 p1
    have p1 : Post X.K X.mg c1 H1 (lift (truth a) c1.st) RB Q _ := p1
    cases et : truth a with
    | none =>
      rw [et] at p1
      exact p1.elim
    | some k =>
      rw [et] at p1
      exact ⟨k, truth_ok o1 sa et, p1.now (b := k) o1 rfl⟩
theorem s_not (ha : PE X a (vG X Wx va)) : PE X (.UnaryOp .Not a pos) (vG X Wx fun ρ => M.bind (va ρ) fun x => M.bind (peekS x) fun d => M.bind (lift (truth d)) fun t => M.pure (.d (.bool (!t)))) :=
  pe_wk (pe_notT ha) fun σ H Q ⟨c, ρ, o, e, p⟩ => (tG.bind o e rfl p).imp fun x H1 ⟨c1, w1, e1, o1, er1, d1, p1⟩ => by
    obtain ⟨a, sa, p1⟩ := post_peekS o1 d1 p1
    obtain ⟨k, ek, p1⟩ := post_lift p1
    exact ⟨k, truth_ok o1 sa ek, done_d o1 p1 (.bool _)⟩
theorem s_notT (ha : PT X a (bG X Wx ta)) : PT X (.UnaryOp .Not a pos) (bG X Wx fun ρ => M.bind (ta ρ) fun t => M.pure (!t)) :=
  pt_wk (pt_not ha) fun σ H Q ⟨c, ρ, o, e, p⟩ => (tG.bind o e rfl p).imp fun x H1 ⟨c1, w1, e1, o1, er1, d1, p1⟩ => by
    have d1 : w1 = x := d1
    subst d1
    exact p1.now (b := !w1) o1 rfl
theorem s_and (ha : PE X a (vG X Wx va)) (hb : PE X (.BoolOp .And (b :: rest) pos) (vG X Wx vb)) :
    PE X (.BoolOp .And (a :: b :: rest) pos) (vG X Wx fun ρ => M.bind (va ρ) fun x => M.bind (peekS x) fun d => M.bind (lift (truth d)) fun t => if t then vb ρ else M.pure x) :=
  pe_wk (pe_andT ha hb) fun σ H Q ⟨c, ρ, o, e, p⟩ => (tG.bind o e rfl p).imp fun x H1 ⟨c1, w1, e1, o1, er1, d1, p1⟩ => by
    obtain ⟨a, sa, p1⟩ := post_peekS o1 d1 p1
    obtain ⟨k, ek, p1⟩ := post_lift p1
    refine ⟨k, truth_ok o1 sa ek, ?_⟩
    cases k with
    | true => exact ⟨c1, ρ, o1, er1, p1⟩
    | false => exact p1.now o1 d1
theorem s_or (ha : PE X a (vG X Wx va)) (hb : PE X (.BoolOp .Or (b :: rest) pos) (vG X Wx vb)) :
    PE X (.BoolOp .Or (a :: b :: rest) pos) (vG X Wx fun ρ => M.bind (va ρ) fun x => M.bind (peekS x) fun d => M.bind (lift (truth d)) fun t => if t then M.pure x else vb ρ) :=
  pe_wk (pe_orT ha hb) fun σ H Q ⟨c, ρ, o, e, p⟩ => (tG.bind o e rfl p).imp fun x H1 ⟨c1, w1, e1, o1, er1, d1, p1⟩ => by
    obtain ⟨a, sa, p1⟩ := post_peekS o1 d1 p1
    obtain ⟨k, ek, p1⟩ := post_lift p1
    refine ⟨k, truth_ok o1 sa ek, ?_⟩
    cases k with
    | false => exact ⟨c1, ρ, o1, er1, p1⟩
    | true => exact p1.now o1 d1
theorem s_andT (ha : PT X a (bG X Wx ta)) (hb : PW X (.BoolOp .And (b :: rest) pos) (bG X Wx tb)) : PW X (.BoolOp .And (a :: b :: rest) pos) (bG X Wx fun ρ => M.bind (ta ρ) fun t => if t then tb ρ else M.pure false) :=
  pw_wk (pw_and ha hb) fun σ H Q ⟨c, ρ, o, e, p⟩ => (tG.bind o e rfl p).imp fun x H1 ⟨c1, w1, e1, o1, er1, d1, p1⟩ => by
    have d1 : w1 = x := d1
    subst d1
    cases w1 with
    | true => exact ⟨c1, ρ, o1, er1, p1⟩
    | false => exact p1.now (b := false) o1 rfl
theorem s_orT (ha : PT X a (bG X Wx ta)) (hb : PW X (.BoolOp .Or (b :: rest) pos) (bG X Wx tb)) : PW X (.BoolOp .Or (a :: b :: rest) pos) (bG X Wx fun ρ => M.bind (ta ρ) fun t => if t then M.pure true else tb ρ) :=
  pw_wk (pw_or ha hb) fun σ H Q ⟨c, ρ, o, e, p⟩ => (tG.bind o e rfl p).imp fun x H1 ⟨c1, w1, e1, o1, er1, d1, p1⟩ => by
    have d1 : w1 = x := d1
    subst d1
    cases w1 with
    | false => exact ⟨c1, ρ, o1, er1, p1⟩
    | true => exact p1.now (b := true) o1 rfl
theorem s_ite (hd : PT X d (bG X Wx ta)) (ha : PE X a (vG X Wx va)) (hb : PE X b (vG X Wx vb)) : PE X (.IfExp d a b pos) (vG X Wx fun ρ => M.bind (ta ρ) fun t => if t then va ρ else vb ρ) :=
  pe_wk (pe_ifExp hd ha hb) fun σ H Q ⟨c, ρ, o, e, p⟩ => (tG.bind o e rfl p).imp fun x H1 ⟨c1, w1, e1, o1, er1, d1, p1⟩ => by
    have d1 : w1 = x := d1
    subst d1
    cases w1 with
    | true => exact ⟨c1, ρ, o1, er1, p1⟩
    | false => exact ⟨c1, ρ, o1, er1, p1⟩
theorem s_iteT {tc : Env → M Bool} (hd : PT X d (bG X Wx tc)) (ha : PT X a (bG X Wx ta)) (hb : PT X b (bG X Wx tb)) : PT X (.IfExp d a b pos) (bG X Wx fun ρ => M.bind (tc ρ) fun t => if t then ta ρ else tb ρ) := by
  refine ⟨fun pins s σ H Q I h => ?_⟩
  obtain ⟨c, ρ, o, e, p⟩ := h
  show wpAny _ _ (do if ← isTrue d X.env (eval d X.env) then isTrue a X.env (eval a X.env) else isTrue b X.env (eval b X.env)) _ _ _
  refine wpAny_bind (thn (hd.run pins s σ H _ I (tG.bind o e rfl p)) fun k s1 ⟨H1, I1, c1, w1, e1, o1, er1, d1, p1⟩ => ?_)
  have d1 : w1 = k := d1
  subst d1
  cases w1 with
  | true => exact ha.run pins s1 σ H1 Q I1 ⟨c1, ρ, o1, er1, p1⟩
  | false => exact hb.run pins s1 σ H1 Q I1 ⟨c1, ρ, o1, er1, p1⟩
theorem plainIx_of (h : isSlice i = false) : PlainIx i := fun o v => by
  cases i <;> first | rfl | cases h
theorem s_idx (ha : PE X a (vG X Wx va)) (hb : PE X b (vG X Wx vb)) (hs : isSlice b = false) :
    PE X (.Subscript a b pos) (vG X Wx fun ρ => M.bind (va ρ) fun x => M.bind (vb ρ) fun y => M.bind (peek y) fun y => idxW x y) :=
  pe_wk (pe_ix ix_seq ha hb (plainIx_of hs)) fun σ H Q ⟨c, ρ, o, e, p⟩ => (tG.bind o e rfl p).imp fun x H1 ⟨c1, w1, e1, o1, er1, d1, p1⟩ => (tG.bind o1 er1 rfl p1).imp fun y H2 ⟨c2, w2, e2, o2, er2, d2, p2⟩ => by
    obtain ⟨b, sb, p2⟩ := post_peek o2 d2 p2
    have p3 : Post X.K X.mg c2 H2 (M.bind (idxW w1 b) (fun w => M.pure w) c2.st) (RW X.K) Q (fun cls da H' => Wx cls da σ H') := by
      have e0 : M.bind (idxW w1 b) (fun w => M.pure w) c2.st = idxW w1 b c2.st := by
        show (idxW w1 b c2.st).andThen _ = _
        cases idxW w1 b c2.st <;> rfl
      rw [e0]
      exact p2
    exact post_idx o2 (WDen.mono e2 d1) sb p3 fun u v du pu => pu.now o2 du
theorem isN_key {c : Cfg} {H : Hp} {y : D} {x : V} (s : SeeS X.K c.B H y x) : decide (x = V.non) = isNon y := by
  cases y with
  | list xs => obtain ⟨a, vs, rfl, _⟩ := s; exact decide_eq_false (fun z => by cases z)
  | tup xs => obtain ⟨a, vs, rfl, _⟩ := s; exact decide_eq_false (fun z => by cases z)
  | rol xs => cases s; exact decide_eq_false (fun z => by cases z)
  | non => cases s; rfl
  | bool b => cases s; exact decide_eq_false (fun z => by cases z)
  | int i => cases s; exact decide_eq_false (fun z => by cases z)
  | str t => cases s; exact decide_eq_false (fun z => by cases z)
theorem isN_eq {c : Cfg} {H : Hp} {y : D} {x : V} {neg : Bool} (s : SeeS X.K c.B H y x) : (isNon y != neg) = if neg then !decide (x = V.non) else decide (x = V.non) := by
  rw [isN_key s]
  cases neg <;> cases isNon y <;> rfl
theorem s_isN {neg : Bool} {j : Nat} {p2 : Pos} (ha : PE X a (vG X Wx va)) : PE X (.Compare a [if neg then .IsNot else .Is] [.Constant .none j p2] pos) (vG X Wx fun ρ => M.bind (va ρ) fun x => M.bind (peekS x) fun x => M.pure (.d (.bool (isNon x != neg)))) := by
  cases neg with
  | false =>
    refine pe_wk (pe_cmp (pc_isN ha) rfl) fun σ H Q ⟨c, ρ, o, e, p⟩ => (tG.bind o e rfl p).imp fun x H1 ⟨c1, w1, e1, o1, er1, d1, p1⟩ => ?_
    obtain ⟨y, sy, p1⟩ := post_peekS o1 d1 p1
    have q := done_d o1 p1 (.bool _)
    rw [isN_eq sy] at q
    exact q
  | true =>
    refine pe_wk (pe_cmp (pc_notN ha) rfl) fun σ H Q ⟨c, ρ, o, e, p⟩ => (tG.bind o e rfl p).imp fun x H1 ⟨c1, w1, e1, o1, er1, d1, p1⟩ => ?_
    obtain ⟨y, sy, p1⟩ := post_peekS o1 d1 p1
    have q := done_d o1 p1 (.bool _)
    rw [isN_eq sy] at q
    exact q
theorem s_isNT {neg : Bool} {j : Nat} {p2 : Pos} (ha : PE X a (vG X Wx va)) : PT X (.Compare a [if neg then .IsNot else .Is] [.Constant .none j p2] pos) (bG X Wx (vT fun ρ => M.bind (va ρ) fun x => M.bind (peekS x) fun x => M.pure (.d (.bool (isNon x != neg))))) := by
  cases neg with
  | false =>
    show PT X (.Compare a [.Is] [.Constant .none j p2] pos) _
    refine pt_wk (pt_cmpR op_isN ha pe_non (nomark _)) fun σ H Q ⟨c, ρ, o, e, p⟩ => ?_
    unfold vT at p
    simp only [bind_assoc'] at p
    refine (tG.bind o e rfl p).imp fun x H1 ⟨c1, w1, e1, o1, er1, d1, p1⟩ => ?_
    obtain ⟨y, sy, p1⟩ := post_peekS o1 d1 p1
    have q := p1.now (b := isNon y != false) o1 rfl
    rw [isN_eq sy] at q
    exact ⟨rfl, _, rfl, q⟩
  | true =>
    show PT X (.Compare a [.IsNot] [.Constant .none j p2] pos) _
    refine pt_wk (pt_cmpR op_notN ha pe_non (nomark _)) fun σ H Q ⟨c, ρ, o, e, p⟩ => ?_
    unfold vT at p
    simp only [bind_assoc'] at p
    refine (tG.bind o e rfl p).imp fun x H1 ⟨c1, w1, e1, o1, er1, d1, p1⟩ => ?_
    obtain ⟨y, sy, p1⟩ := post_peekS o1 d1 p1
    have q := p1.now (b := isNon y != true) o1 rfl
    rw [isN_eq sy] at q
    exact ⟨rfl, _, rfl, q⟩
theorem s_part (ha : PE X a (vG X Wx va)) : PO X (some a) (oG X Wx fun ρ => M.bind (va ρ) partW) :=
  po_wk (po_some ha) fun σ H Q ⟨c, ρ, o, e, p⟩ => (tG.bind o e rfl p).imp fun x H1 ⟨c1, w1, e1, o1, er1, d1, p1⟩ => by
    obtain ⟨y, sy, p1⟩ := post_peek o1 d1 p1
    cases y with
    | int i =>
      cases sy
      exact ⟨i, rfl, p1.now (b := some i) o1 rfl⟩
    | _ => exact p1.elim
theorem s_part0 : PO X none (oG X Wx fun _ => M.pure none) := po_wk po_none fun σ H Q ⟨c, ρ, o, e, p⟩ => p.now (b := none) o rfl
theorem s_slice {m : Bool} {lo hi : Option Expr} {ml mh : Env → M (Option Int)} {p2 : Pos} (ha : PE X a (vG X Wx va)) (hl : PO X lo (oG X Wx ml)) (hh : PO X hi (oG X Wx mh)) :
    PE X (.Subscript a (.Slice lo hi none p2) pos) (vG X Wx fun ρ => M.bind (va ρ) fun x => M.bind (ml ρ) fun l => M.bind (mh ρ) fun h => M.bind (peek x) fun x => M.bind (lift (sliceD x l h)) fun z => alloc m z) :=
  pe_wk (pe_slice sl_ok ha hl hh) fun σ H Q ⟨c, ρ, o, e, p⟩ => (tG.bind o e rfl p).imp fun x H1 ⟨c1, w1, e1, o1, er1, d1, p1⟩ => (tG.bind o1 er1 rfl p1).imp fun l H2 ⟨c2, w2, e2, o2, er2, d2, p2⟩ =>
    (tG.bind o2 er2 rfl p2).imp fun h H3 ⟨c3, w3, e3, o3, er3, d3, p3⟩ => by
      have d2 : w2 = l := d2
      have d3 : w3 = h := d3
      subst d2
      subst d3
      obtain ⟨a, sa, p3⟩ := post_peek o3 ((d1.mono e2).mono e3) p3
      obtain ⟨z, ez, p3⟩ := post_lift p3
      exact slice_ok o3 sa ez p3
end
end Cr

namespace Cr
open PySem L2
def spR (K : KF) (mg : Str → Option Value) (run : Str → List W → M W) (f : Str) : Sp := fun vs H Q E => ∃ c ws, Ok K c H ∧ WDenL K c ws vs ∧ Post K mg c H (run f ws c.st) (RW K) Q E
/-- a def that keeps what run tells -/
structure Fnk (X : Cx) (run : Str → List W → M W) (n : Nat) (f : Str) : Prop where
  ex : ∃ (a : Addr) (fd : FuncData) (ps : List Str), X.mg f = some (.ref a) ∧ PySem.W.keepIn X.K (.ref a) = true ∧ Binds X.K fd ps [] ∧ FnOk X.prog X.w X.K X.mg X.base (L2.CX X.prog X.w) n a fd ps (spR X.K X.mg run f)
theorem freeze_ok {K : KF} {c : Cfg} {H : Hp} {w : W} {v : V} {x : D} {st : Store} (o : Ok K c H) (d : WDen K c w v) (h : freeze w c.st = .ok x st) : ∃ c1, c1.st = st ∧ Ext c H c1 H ∧ Ok K c1 H ∧ Den K c1.B x v := by
  have h : freezeN 6 w c.st = .ok x st := h
  rcases freezeN_ok 6 o d with e | ⟨c1, y, e, e1, o1, d1⟩
  · rw [e] at h
    cases h
  · rw [e] at h
    cases h
    exact ⟨c1, rfl, e1, o1, d1⟩
/-- behind a call by data alone the caller's own cells are as they were -/
theorem back {K : KF} {c c1 : Cfg} {H H1 : Hp} (o : Ok K c H) (e : Ext ⟨c.B, [], []⟩ H c1 H1) (o1 : Ok K c1 H1) : Ok K ⟨c1.B, c.pl, c.st⟩ H1 ∧ Ext c H ⟨c1.B, c.pl, c.st⟩ H1 := by
  have fr : ∀ a u, H a = some u → c.B a = none → H1 a = some u ∧ c1.B a = none := fun a u h1 h2 => e.frame a u h1 h2 (by intro z; cases z)
  refine ⟨⟨o1.sub, o.len, o.nd, fun n a cell h1 h2 => ?_, fun a ha => e.there a (o.own a ha)⟩, ⟨e.exB, ⟨[], by simp, by simp⟩, e.there, fun a u h1 h2 _ => fr a u h1 h2⟩⟩
  have ha : H a ≠ none := o.own a (List.mem_of_getElem? h1)
  refine (o.cells n a cell h1 h2).grow (by exact e.exB) (by exact ⟨[], by simp⟩) (fun q => ?_) (fun u q q2 => (fr a u q2 q).1)
  cases hu : H a with
  | none => exact absurd hu ha
  | some u => exact (fr a u hu q).2
theorem ok_sub {K : KF} {c : Cfg} {H : Hp} (o : Ok K c H) : Ok K ⟨c.B, [], []⟩ H := ⟨o.sub, rfl, by simp, fun n a cell h => by simp at h, fun a ha => by cases ha⟩
theorem wdenl_d {K : KF} {c : Cfg} : ∀ {xs : List D} {vs : List V}, DenL K c.B xs vs → WDenL K c (xs.map .d) vs
  | _, _, .nil => .nil
  | _, _, .cons h l => .cons h (wdenl_d l)
section
variable {X : Cx} {Wx : WX} {run : Str → List W → M W} {n : Nat} {a b e : Expr} {es : List Expr} {pos p : Pos} {ms : List Sm} {va vb : Env → M W}
theorem pe_callS0 {k : Nat} {f : Addr} {fd : FuncData} {ps : List Str} {sp : Sp} {x : Str} (F : FnOk X.prog X.w X.K X.mg X.base (L2.CX X.prog X.w) k f fd ps sp) (hr : Room k X.A) (hg : Gl X x) (hm : X.mg x = some (.ref f)) (hk : PySem.W.keepIn X.K (.ref f) = true)
    (hb : Binds X.K fd ps []) (tk : Takes X Wx) (hdb : (x == ("__debug__" : Str)) = false) : PE X (.Call (.Name x p) [] [] pos) (tCallS sp (WE Wx) tNil) :=
  ⟨fun _ s σ H _ I h => wpAny_Call_Name_kw (ld_glob I hg hm (PySem.W.callWith_K0 I.kIn hk (run_fnS (vs := []) (us := []) F hr hb (passAt tk σ) I .nil h)) hdb)⟩
theorem pe_callX {k : Nat} {f : Addr} {fd : FuncData} {ps : List Str} {sp : Sp} {x : Str} (F : FnOk X.prog X.w X.K X.mg X.base (L2.CX X.prog X.w) k f fd ps sp) (hr : Room k X.A) (hg : Gl X x) (hm : X.mg x = some (.ref f)) (hk : PySem.W.keepIn X.K (.ref f) = true)
    (hb : Binds X.K fd ps []) (tk : Takes X Wx) (hdb : (x == ("__debug__" : Str)) = false) (h : PA X es (lG X Wx (smL ms))) (hs : noStar es = true) (h0 : es = [] → ms = []) : PE X (.Call (.Name x p) es [] pos) (tCallS sp (WE Wx) (lG X Wx (smL ms))) := by
  cases es with
  | nil =>
    rw [h0 rfl]
    exact pe_wk (pe_callS0 F hr hg hm hk hb tk hdb) fun σ H Q ⟨c, ρ, o, e, p⟩ => p.now o .nil
  | cons e es =>
    have hs : (!isStar e && noStar es) = true := hs
    obtain ⟨h1, h2⟩ := and2 hs
    exact pe_callS F hr hg hm hk hb (fun σ => passAt tk σ) h hdb (star_ne (by simpa using h1)) (star_plain h2)
theorem s_callM {f : Str} (tk : Takes X Wx) (hr : Room n X.A) (hg : Gl X f) (F : Fnk X run n f) (hdb : (f == ("__debug__" : Str)) = false) (h : PA X es (lG X Wx (smL ms))) (hs : noStar es = true) (h0 : es = [] → ms = []) :
    PE X (.Call (.Name f p) es [] pos) (vG X Wx fun ρ => M.bind (smL ms ρ) fun ws => run f ws) := by
  obtain ⟨ad, fd, ps, hm, hk, hb, G⟩ := F.ex
  exact pe_wk (pe_callX G hr hg hm hk hb tk hdb h hs h0) fun σ H Q ⟨c, ρ, o, e, p⟩ => (tG.bind o e rfl p).imp fun vs H1 ⟨c1, ws, e1, o1, er1, d1, p1⟩ => ⟨c1, ws, o1, d1, p1⟩
theorem freezes_ok {K : KF} {H : Hp} : ∀ {ws : List W} {vs : List V} {c : Cfg}, Ok K c H → WDenL K c ws vs → freezes ws c.st = .bad ∨ ∃ c1 xs, freezes ws c.st = .ok xs c1.st ∧ Ext c H c1 H ∧ Ok K c1 H ∧ DenL K c1.B xs vs
  | [], _, c, o, .nil => .inr ⟨c, [], rfl, Ext.refl c H, o, .nil⟩
  | w :: ws, _, c, o, .cons d l => by
    show ((freezeN 6 w c.st).andThen fun x s => ((freezes ws s).andThen fun xs => M.pure (x :: xs))) = _ ∨ ∃ c1 xs, ((freezeN 6 w c.st).andThen fun x s => ((freezes ws s).andThen fun xs => M.pure (x :: xs))) = _ ∧ _
    rcases freezeN_ok 6 o d with e | ⟨c1, x, e, e1, o1, d1⟩
    · rw [e]; exact .inl rfl
    · rw [e]
      rcases freezes_ok o1 (l.mono e1) with q | ⟨c2, xs, q, e2, o2, d2⟩
      · refine .inl ?_
        show ((freezes ws c1.st).andThen fun xs => M.pure (x :: xs)) = _
        rw [q]; rfl
      · refine .inr ⟨c2, x :: xs, ?_, Ext.trans o1 e1 e2, o2, .cons (Den.mono e2.exB d1) d2⟩
        show ((freezes ws c1.st).andThen fun xs => M.pure (x :: xs)) = _
        rw [q]; rfl
/-- behind a call by data alone all that was there is as it was -/
theorem stay {K : KF} {c c1 c2 : Cfg} {H H1 : Hp} (o : Ok K c H) (o1 : Ok K c1 H) (e : Ext ⟨c1.B, [], []⟩ H c2 H1) (o2 : Ok K c2 H1) : Ok K c H1 ∧ Ext c H c H1 := by
  have hh : ∀ a u, H a = some u → H1 a = some u := fun a u h1 => by
    cases hb : c1.B a with
    | none => exact (e.frame a u h1 hb (by intro z; cases z)).1
    | some u' =>
      have := o1.sub a u' hb
      rw [h1] at this
      cases this
      exact o2.sub a u (e.exB a u hb)
  refine ⟨⟨fun a u h => hh a u (o.sub a u h), o.len, o.nd, fun n a cell h1 h2 => ?_, fun a ha => e.there a (o.own a ha)⟩, ⟨Ex.refl _, ⟨[], by simp, by simp⟩, e.there, fun a u h1 h2 _ => ⟨hh a u h1, h2⟩⟩⟩
  exact (o.cells n a cell h1 h2).grow (Ex.refl _) ⟨[], by simp⟩ (fun q => q) (fun u _ q => hh a u q)
theorem Den.atom {K : KF} {B B' : Hp} {x : D} {v : V} (h : Den K B x v) (a : x.atom = true) : Den K B' x v := by
  cases h with
  | non => exact .non
  | bool b => exact .bool b
  | int i => exact .int i
  | str s => exact .str s
  | list _ _ => cases a
  | tup _ _ => cases a
  | rol _ _ => cases a
theorem s_call {f : Str} (tk : Takes X Wx) (hr : Room n X.A) (hg : Gl X f) (F : Fnk X run n f) (hdb : (f == ("__debug__" : Str)) = false) (h : PA X es (lG X Wx (smL ms))) (hs : noStar es = true) (h0 : es = [] → ms = []) :
    PE X (.Call (.Name f p) es [] pos) (vG X Wx fun ρ => M.bind (smL ms ρ) fun ws => M.bind (pcall run f ws) fun z => M.pure (.d z)) := by
  obtain ⟨ad, fd, ps, hm, hk, hb, G⟩ := F.ex
  refine pe_wk (pe_callX G hr hg hm hk hb tk hdb h hs h0) fun σ H Q ⟨c, ρ, o, e, p⟩ => (tG.bind o e rfl p).imp fun vs H1 ⟨c1, ws, e1, o1, er1, d1, p1⟩ => ?_
  have p1 : Post X.K X.mg c1 H1 ((match freezes ws c1.st with
    | .ok xs s1 => (match run f (xs.map .d) [] with
      | .ok w st => (match freeze w st with
        | .ok x _ => if x.atom then Res.ok x c1.st else Res.ok x s1
        | _ => .bad)
      | .exc c d _ => .exc c d s1
      | .bad => .bad)
    | _ => .bad).andThen fun z => M.pure (W.d z)) (RW X.K) Q _ := p1
  rcases freezes_ok o1 d1 with q2 | ⟨c2, xs, q2, e2, o2, d2⟩
  · rw [q2] at p1
    exact p1.elim
  · rw [q2] at p1
    refine ⟨⟨c2.B, [], []⟩, xs.map .d, ok_sub o2, wdenl_d d2, ?_⟩
    show Post X.K X.mg _ H1 (run f (xs.map .d) []) _ _ _
    have p2 : Post X.K X.mg c1 H1 ((match run f (xs.map .d) [] with
      | .ok w st => (match freeze w st with
        | .ok x _ => if x.atom then Res.ok x c1.st else Res.ok x c2.st
        | _ => .bad)
      | .exc c d _ => .exc c d c2.st
      | .bad => .bad).andThen fun z => M.pure (W.d z)) (RW X.K) Q _ := p1
    generalize run f (xs.map .d) [] = r at p2
    cases r with
    | bad => exact p2
    | exc cl dd st =>
      intro c' H' cls da h1 h2 h3 h4
      obtain ⟨o3, e3⟩ := back o2 h2 h3
      exact (Post.later (r := Res.exc cl dd c2.st) o2 e2 p2) ⟨c'.B, c2.pl, c2.st⟩ H' cls da rfl e3 o3 h4
    | ok w st =>
      intro c' H' v h1 h2 h3 h4
      subst h1
      have p2 : Post X.K X.mg c1 H1 ((match freeze w c'.st with
        | .ok x _ => if x.atom then Res.ok x c1.st else Res.ok x c2.st
        | _ => .bad).andThen fun z => M.pure (W.d z)) (RW X.K) Q _ := p2
      cases fz : freeze w c'.st with
      | bad => rw [fz] at p2; exact p2.elim
      | exc _ _ _ => rw [fz] at p2; exact p2.elim
      | ok x st2 =>
        rw [fz] at p2
        obtain ⟨c3, z3, e3, o3, d3⟩ := freeze_ok h3 h4 fz
        have e23 := Ext.trans h3 h2 e3
        have p2 : Post X.K X.mg c1 H1 ((if x.atom then Res.ok x c1.st else Res.ok x c2.st).andThen fun z => M.pure (W.d z)) (RW X.K) Q _ := p2
        by_cases ha : x.atom = true
        · rw [if_pos ha] at p2
          obtain ⟨o4, e4⟩ := stay o1 o2 e23 o3
          exact p2 c1 H' v rfl e4 o4 (Den.atom d3 ha)
        · rw [if_neg ha] at p2
          obtain ⟨o4, e4⟩ := back o2 e23 o3
          exact (Post.later (r := Res.ok (W.d x) c2.st) o2 e2 p2) ⟨c3.B, c2.pl, c2.st⟩ H' v rfl e4 o4 d3
def rAnyC (X : Cx) (f : Value) : List V → Hp → VK → Prop := fun vs H Q => ∀ (pins : List (Addr × Obj)) (s : Shared) (σ : L2.St) (us : List Value), Inv X pins σ H s → Vals vs us → wpAny (model X.prog X.w) X.A (call f us) (EP X pins σ Q) X.xe s
theorem callR_any (f : Value) : CallR X f (rAnyC X f) := fun pins s σ H xs us Q I r h => h pins s σ us I r
theorem boot_bi : ∀ f : Bi, bootBuiltins (nmBi f) = some (idBi f) := by intro f; cases f <;> decide +kernel
theorem nm_bi : ∀ f : Bi, nmBi f ≠ "__name__" ∧ (nmBi f == ("__debug__" : Str)) = false := by intro f; cases f <;> decide
theorem s_bi {f : Bi} {m : Bool} (hc : X.calm = true) (hg : Gl X (nmBi f)) (hm : X.mg (nmBi f) = none) (he : es ≠ []) (h : PEs X Wx es ms) :
    PE X (.Call (.Name (nmBi f) p) es [] pos) (vG X Wx fun ρ => M.bind (smL ms ρ) fun ws => M.bind (peeks ws) fun xs => M.bind (lift (biD f xs)) fun z => alloc m z) := by
  have wk : ∀ σ H Q, vG X Wx (fun ρ => M.bind (smL ms ρ) fun ws => M.bind (peeks ws) fun xs => M.bind (lift (biD f xs)) fun z => alloc m z) σ H Q → tCB (rAnyC X (idBi f)) (lG X Wx (smL ms)) σ H Q := fun σ H Q ⟨c, ρ, o, e, p⟩ =>
    (tG.bind o e rfl p).imp fun vs H1 ⟨c1, ws, e1, o1, er1, d1, p1⟩ => by
      obtain ⟨xs, sx, p1⟩ := post_peeks o1 d1 p1
      obtain ⟨z, ez, p1⟩ := post_lift p1
      exact bi_ok hc rfl o1 sx ez p1
  cases h with
  | nil => exact absurd rfl he
  | cons h1 h2 h3 =>
    refine pe_wk ?_ wk
    have q := boot_bi f
    obtain ⟨n1, n2⟩ := nm_bi f
    cases f with
    | len => exact pe_callB (callR_any _) hg hm q (s_args (.cons h1 h2 h3)) n1 n2 (star_ne h1) (star_plain h3.plain)
    | all => exact pe_callB (callR_any _) hg hm q (s_args (.cons h1 h2 h3)) n1 n2 (star_ne h1) (star_plain h3.plain)
    | any => exact pe_callB (callR_any _) hg hm q (s_args (.cons h1 h2 h3)) n1 n2 (star_ne h1) (star_plain h3.plain)
    | int => exact pe_callTy (callR_any _) hg hm q (s_args (.cons h1 h2 h3)) n1 n2 (star_ne h1) (star_plain h3.plain)
    | str => exact pe_callTy (callR_any _) hg hm q (s_args (.cons h1 h2 h3)) n1 n2 (star_ne h1) (star_plain h3.plain)
    | list => exact pe_callTy (callR_any _) hg hm q (s_args (.cons h1 h2 h3)) n1 n2 (star_ne h1) (star_plain h3.plain)
    | abs => exact pe_callB (callR_any _) hg hm q (s_args (.cons h1 h2 h3)) n1 n2 (star_ne h1) (star_plain h3.plain)
    | max => exact pe_callB (callR_any _) hg hm q (s_args (.cons h1 h2 h3)) n1 n2 (star_ne h1) (star_plain h3.plain)
    | min => exact pe_callB (callR_any _) hg hm q (s_args (.cons h1 h2 h3)) n1 n2 (star_ne h1) (star_plain h3.plain)
    | sum => exact pe_callB (callR_any _) hg hm q (s_args (.cons h1 h2 h3)) n1 n2 (star_ne h1) (star_plain h3.plain)
    | sorted => exact pe_callB (callR_any _) hg hm q (s_args (.cons h1 h2 h3)) n1 n2 (star_ne h1) (star_plain h3.plain)
    | minL => exact pe_callB (callR_any _) hg hm q (s_args (.cons h1 h2 h3)) n1 n2 (star_ne h1) (star_plain h3.plain)
    | maxL => exact pe_callB (callR_any _) hg hm q (s_args (.cons h1 h2 h3)) n1 n2 (star_ne h1) (star_plain h3.plain)
    | tuple => exact pe_callTy (callR_any _) hg hm q (s_args (.cons h1 h2 h3)) n1 n2 (star_ne h1) (star_plain h3.plain)
theorem base_of {o : Expr} {m : Str} {env : PySem.Env} (h : isSuper o = false) (w : Sem Value) : attributeBase o m env w = w := by
  unfold attributeBase
  split
  · rename_i id p1 p2 
    have h : (id == ("super" : Str)) = false := h
    have h2 : (id != ("super" : Str)) = true := by simp [bne, h]
    simp [h2]
  · rfl
theorem few_of {es' : List Expr} {env : PySem.Env} (h1 : isStar e = false) (h2 : noStar es' = true) (h3 : es'.length < 20) : ((backTo pos (starEach (e :: es') env)).all (fun x => !x.1) && (backToKw pos (keywordEach [] env)).all (fun x => x.1.isSome)
      && decide ((e :: es').length + ([] : List Keyword).length + (if ([] : List Keyword).isEmpty then 0 else 1) < 30)) = true := by
  have q : ((backTo pos (starEach (e :: es') env)).all (fun x => !x.1)) = true := by
    have r := star_plain (pos := pos) (env := env) (es := e :: es') (by show (!isStar e && noStar es') = true; rw [h1, h2]; rfl)
    rw [List.all_eq_true]
    intro x hx
    have := List.any_eq_false.mp r x hx
    simpa using this
  rw [q]
  show (true && true && decide (es'.length + 1 + 0 + 0 < 30)) = true
  simp
  omega
def rAnyM (X : Cx) (id : String) : V → List V → Hp → VK → Prop := fun x vs H Q => ∀ (pins : List (Addr × Obj)) (s : Shared) (σ : L2.St) (v : Value) (us : List Value), Inv X pins σ H s → RelV x v → Vals vs us → wpAny (model X.prog X.w) X.A (call (.builtin id) (v :: us)) (EP X pins σ Q) X.xe s
theorem mtR_any (id : String) : MtR X id (rAnyM X id) := fun pins s σ H x xs v us Q I rx r h => h pins s σ v us I rx r
structure SlotOk (m : Str) (id : String) : Prop where
  slot : Slot "str" m id
  ty : typeOf (.builtin id) = pure (.type "method_descriptor")
theorem slot_mt : ∀ f : Mt, SlotOk (nmMt f) (idMt f) := by
  intro f
  cases f with
  | join => exact ⟨PySem.F.slot_str_join, PySem.F.type_str_join⟩
  | split => exact ⟨PySem.F.slot_str_split, PySem.F.type_str_split⟩
  | index => exact ⟨PySem.F.slot_str_index, PySem.F.type_str_index⟩
  | find => exact ⟨PySem.F.slot_str_find, PySem.F.type_str_find⟩
  | startswith => exact ⟨PySem.F.slot_str_startswith, PySem.F.type_str_startswith⟩
theorem s_mt {f : Mt} {m : Bool} {o : Expr} {vo : Env → M W} {apos : Pos} (ho : PE X o (vG X Wx vo)) (h : PEs X Wx es ms) (he : es ≠ []) (hl : es.length < 20) (hs : isSuper o = false) (hline : (apos.endLine == pos.line) = true) :
    PE X (.Call (.Attribute o (nmMt f) apos) es [] pos) (vG X Wx fun ρ => M.bind (vo ρ) fun x => M.bind (peek x) fun x0 => M.bind (guard (isStr x0)) fun _ => M.bind (smL ms ρ) fun ws => M.bind (peek x) fun x => M.bind (peeks ws) fun xs => M.bind (lift (mtD f x xs)) fun z => alloc m z) := by
  have S := slot_mt f
  cases h with
  | nil => exact absurd rfl he
  | cons h1 h2 h3 =>
    refine pe_wk (pe_bm PySem.F.plainAttrs_str S.slot S.ty (mtR_any (idMt f)) ho (s_args (.cons h1 h2 h3)) (base_of hs _) (few_of h1 h3.plain (by simp at hl; omega)) hline (star_ne h1) (star_plain h3.plain)) fun σ H Q ⟨c, ρ, o, e, p⟩ =>
      (tG.bind o e rfl p).imp fun x H1 ⟨c1, w, e1, o1, er1, d1, p1⟩ => ?_
    obtain ⟨x0, s0, p1⟩ := post_peek o1 d1 p1
    obtain ⟨g, p1⟩ := post_guard p1
    have ty : tyV X.K "str" x H1 := by
      cases x0 with
      | str t => cases s0; exact rfl
      | _ => cases g
    refine ⟨ty, (tG.bind o1 er1 rfl p1).imp fun vs H2 ⟨c2, ws, e2, o2, er2, d2, p2⟩ => ?_⟩
    obtain ⟨y, sy, p2⟩ := post_peek o2 (d1.mono e2) p2
    obtain ⟨xs, sx, p2⟩ := post_peeks o2 d2 p2
    obtain ⟨z, ez, p2⟩ := post_lift p2
    exact (mt_ok rfl o2 sy sx ez p2).2
/-- a cell that is a list, and what is done with it -/
theorem post_listAt {γ δ : Type} {K : KF} {mg : Str → Option Value} {c : Cfg} {H : Hp} {n : Nat} {f : List W → Res γ} {R : Cfg → Hp → γ → δ → Prop} {Q : δ → Hp → Prop} {E : EK} (h : Post K mg c H (match c.st[n]? with | some (.list xs) => f xs | _ => .bad) R Q E) : ∃ xs, c.st[n]? = some (.list xs) ∧ Post K mg c H (f xs) R Q E := by
  cases e : c.st[n]? with
  | none => rw [e] at h; exact h.elim
  | some cell =>
    rw [e] at h
    cases cell with
    | list xs => exact ⟨xs, rfl, h⟩
    | tup _ => exact h.elim
    | frz _ => exact h.elim
theorem post_guardL {γ δ : Type} {K : KF} {mg : Str → Option Value} {c : Cfg} {H : Hp} {w : W} {v : V} {k : Unit → M γ} {R : Cfg → Hp → γ → δ → Prop} {Q : δ → Hp → Prop} {E : EK} (o : Ok K c H) (d : WDen K c w v) (h : Post K mg c H (M.bind (guardL w) k c.st) R Q E) :
    ∃ n a vs, w = .ref n ∧ v = .ref a ∧ c.pl[n]? = some a ∧ H a = some (.lst vs) ∧ Post K mg c H (k () c.st) R Q E := by
  cases w with
  | d _ => exact h.elim
  | ref n =>
    obtain ⟨a, hi, rfl⟩ := d
    have h : Post K mg c H ((match c.st[n]? with | some (.list _) => Res.ok () c.st | _ => .bad).andThen k) R Q E := h
    cases e : c.st[n]? with
    | none => rw [e] at h; exact h.elim
    | some cell =>
      rw [e] at h
      cases cell with
      | list xs =>
        obtain ⟨_, vs, q2, _⟩ := live_list o hi e
        exact ⟨n, a, vs, rfl, rfl, hi, q2, h⟩
      | tup _ => exact h.elim
      | frz _ => exact h.elim
theorem post_if {γ δ : Type} {K : KF} {mg : Str → Option Value} {c : Cfg} {H : Hp} {b : Bool} {r : Res γ} {R : Cfg → Hp → γ → δ → Prop} {Q : δ → Hp → Prop} {E : EK} (h : Post K mg c H (if b then r else .bad) R Q E) : b = true ∧ Post K mg c H r R Q E := by
  cases b with
  | false => exact h.elim
  | true => exact ⟨rfl, h⟩
/-- a list's cell is written anew -/
theorem put_list {K : KF} {mg : Str → Option Value} {α β : Type} {c : Cfg} {H : Hp} {n : Nat} {a : Addr} {xs ys : List W} {us : List V} {x : α} {b : β} {R : Cfg → Hp → α → β → Prop} {Q : β → Hp → Prop} {E : EK} (o : Ok K c H) (hi : c.pl[n]? = some a) (hs : c.st[n]? = some (.list xs)) (d : WDenL K c ys us)
    (p : Post K mg c H (.ok x (c.st.set n (.list ys))) R Q E) (r : ∀ c' H', R c' H' x b) : Q b (upd H a (.lst us)) := by
  obtain ⟨o4, e4⟩ := put_cell (cell := .list ys) (o := HO.lst us) o hi hs rfl ⟨us, rfl, d⟩
  exact p _ _ b rfl e4 o4 (r _ _)
theorem s_app {o : Expr} {vo : Env → M W} {apos : Pos} (ho : PE X o (vG X Wx vo)) (ha : PE X a (vG X Wx va)) (h1 : isStar a = false) (hs : isSuper o = false) (hline : (apos.endLine == pos.line) = true) :
    PE X (.Call (.Attribute o "append" apos) [a] [] pos) (vG X Wx fun ρ => M.bind (vo ρ) fun x => M.bind (guardL x) fun _ => M.bind (va ρ) fun w => M.bind (freeze w) fun y => append x y) := by
  refine pe_wk (pe_bm PySem.F.plainAttrs_list PySem.F.slot_list_append PySem.F.type_list_append mt_append ho (pa_cons ha pa_nil (star_ne h1)) (base_of hs _) (few_of h1 rfl (by decide)) hline (star_ne h1) rfl) fun σ H Q ⟨c, ρ, o, e, p⟩ =>
    (tG.bind o e rfl p).imp fun x H1 ⟨c1, w, e1, o1, er1, d1, p1⟩ => ?_
  obtain ⟨n, ad, vs, rfl, rfl, hi, hv, p1⟩ := post_guardL o1 d1 p1
  refine ⟨.inl ⟨rfl, vs, SqL.of hv⟩, (tG.bind o1 er1 rfl p1).imp fun y H2 ⟨c2, w2, e2, o2, er2, d2, p2⟩ => ?_⟩
  obtain ⟨c3, y3, e3, o3, d3, p3⟩ := post_freeze o2 d2 p2
  have hi3 := e3.ix (e2.ix hi)
  obtain ⟨zs, es3, p3⟩ := post_listAt (f := fun xs => if decide (xs.length < 16777216) then Res.ok (W.d .non) (c3.st.set n (.list (xs ++ [.d y3]))) else .bad) p3
  obtain ⟨hz, p3⟩ := post_if p3
  have hz := of_decide_eq_true hz
  obtain ⟨_, us, r2, r3⟩ := live_list o3 hi3 es3
  exact ⟨ad, us, y, rfl, rfl, r2, by rw [← r3.length, sizeLine_eq]; exact hz, put_list (b := V.non) o3 hi3 es3 (r3.append (.cons (x := .d y3) d3 .nil)) p3 fun _ _ => .non⟩
theorem s_appw {o : Expr} {vo : Env → M W} {apos : Pos} (ho : PE X o (vG X Wx vo)) (ha : PE X a (vG X Wx va)) (h1 : isStar a = false) (hs : isSuper o = false) (hline : (apos.endLine == pos.line) = true) :
    PE X (.Call (.Attribute o "append" apos) [a] [] pos) (vG X Wx fun ρ => M.bind (vo ρ) fun x => M.bind (guardL x) fun _ => M.bind (va ρ) fun w => appendW x w) := by
  refine pe_wk (pe_bm PySem.F.plainAttrs_list PySem.F.slot_list_append PySem.F.type_list_append mt_append ho (pa_cons ha pa_nil (star_ne h1)) (base_of hs _) (few_of h1 rfl (by decide)) hline (star_ne h1) rfl) fun σ H Q ⟨c, ρ, o, e, p⟩ =>
    (tG.bind o e rfl p).imp fun x H1 ⟨c1, w, e1, o1, er1, d1, p1⟩ => ?_
  obtain ⟨n, ad, vs, rfl, rfl, hi, hv, p1⟩ := post_guardL o1 d1 p1
  refine ⟨.inl ⟨rfl, vs, SqL.of hv⟩, (tG.bind o1 er1 rfl p1).imp fun y H2 ⟨c2, w2, e2, o2, er2, d2, p2⟩ => ?_⟩
  have hi3 := e2.ix hi
  obtain ⟨zs, es3, p3⟩ := post_listAt (f := fun xs => if decide (xs.length < 16777216) then Res.ok (W.d .non) (c2.st.set n (.list (xs ++ [w2]))) else .bad) p2
  obtain ⟨hz, p3⟩ := post_if p3
  have hz := of_decide_eq_true hz
  obtain ⟨_, us, r2, r3⟩ := live_list o2 hi3 es3
  exact ⟨ad, us, y, rfl, rfl, r2, by rw [← r3.length, sizeLine_eq]; exact hz, put_list (b := V.non) o2 hi3 es3 (r3.append (.cons d2 .nil)) p3 fun _ _ => .non⟩
theorem s_ext {o : Expr} {vo : Env → M W} {apos : Pos} (ho : PE X o (vG X Wx vo)) (ha : PE X a (vG X Wx va)) (h1 : isStar a = false) (hs : isSuper o = false) (hline : (apos.endLine == pos.line) = true) :
    PE X (.Call (.Attribute o "extend" apos) [a] [] pos) (vG X Wx fun ρ => M.bind (vo ρ) fun x => M.bind (guardL x) fun _ => M.bind (va ρ) fun w => M.bind (peek w) fun y => extend x y) := by
  refine pe_wk (pe_bm PySem.F.plainAttrs_list PySem.F.slot_list_extend PySem.F.type_list_extend mt_extend ho (pa_cons ha pa_nil (star_ne h1)) (base_of hs _) (few_of h1 rfl (by decide)) hline (star_ne h1) rfl) fun σ H Q ⟨c, ρ, o, e, p⟩ =>
    (tG.bind o e rfl p).imp fun x H1 ⟨c1, w, e1, o1, er1, d1, p1⟩ => ?_
  obtain ⟨n, ad, vs, rfl, rfl, hi, hv, p1⟩ := post_guardL o1 d1 p1
  refine ⟨.inl ⟨rfl, vs, SqL.of hv⟩, (tG.bind o1 er1 rfl p1).imp fun y H2 ⟨c2, w2, e2, o2, er2, d2, p2⟩ => ?_⟩
  obtain ⟨y3, s3, p3⟩ := post_peek o2 d2 p2
  cases y3 with
  | list ys =>
    obtain ⟨b, zs, rfl, hb, lb⟩ := s3
    have hi3 := e2.ix hi
    obtain ⟨xs, es3, p3⟩ := post_listAt (f := fun xs => if fits (xs.length + ys.length) then Res.ok (W.d .non) (c2.st.set n (.list (xs ++ ys.map .d))) else .bad) p3
    obtain ⟨hz, p3⟩ := post_if p3
    obtain ⟨_, us, r2, r3⟩ := live_list o2 hi3 es3
    exact ⟨ad, b, us, zs, rfl, rfl, r2, hb, by rw [← r3.length, ← lb.length]; exact fits_le hz, put_list (b := V.non) o2 hi3 es3 (r3.append (wdenl_d lb)) p3 fun _ _ => .non⟩
  | _ => exact p3.elim
theorem s_len (hg : Gl X "len") (hm : X.mg "len" = none) (h1 : isStar a = false) (ha : PE X a (vG X Wx va)) :
    PE X (.Call (.Name "len" p) [a] [] pos) (vG X Wx fun ρ => M.bind (va ρ) fun x => M.bind (peekS x) fun x => M.bind (lift (lenD x)) fun n => M.pure (.d (.int (n : Int)))) := by
  refine pe_wk (pe_callB (callR_any (.builtin "len")) hg hm PySem.boot_len (pa_cons ha pa_nil (star_ne h1)) (by decide) (by decide) (star_ne h1) rfl) fun σ H Q ⟨c, ρ, o, e, p⟩ => (tG.bind o e rfl p).imp fun x H1 ⟨c1, w, e1, o1, er1, d1, p1⟩ => ?_
  obtain ⟨y, sy, p1⟩ := post_peekS o1 d1 p1
  obtain ⟨n, en, p1⟩ := post_lift p1
  have q : Q (.int (n : Int)) H1 := done_d o1 p1 (.int _)
  intro pins sh σ us I r
  rcases len_ok o1 sy en q with ⟨z, rfl, hz, q⟩ | ⟨pp, vs, rfl, hs, q⟩
  · exact call_len_str pins sh σ H1 _ us Q I r ⟨z, rfl, hz, q⟩
  · exact call_len_seq pins sh σ H1 _ us Q I r ⟨pp, vs, rfl, hs, q⟩
theorem s_gcd (hg : Gl X "gcd") (hm : X.mg "gcd" = some (.builtin "math.gcd")) (h1 : isStar a = false) (h2 : isStar b = false) (ha : PE X a (vG X Wx va)) (hb : PE X b (vG X Wx vb)) :
    PE X (.Call (.Name "gcd" p) [a, b] [] pos) (vG X Wx fun ρ => M.bind (va ρ) fun x => M.bind (vb ρ) fun y => M.bind (peek x) fun x => M.bind (peek y) fun y => M.bind (lift (gcdD x y)) fun z => M.pure (.d z)) := by
  refine pe_wk (pe_callBfun cr_gcd hg hm (pa_cons ha (pa_cons hb pa_nil (star_ne h2)) (star_ne h1)) (by decide) (star_ne h1) (by rw [star_ne h2]; rfl)) fun σ H Q ⟨c, ρ, o, e, p⟩ => (tG.bind o e rfl p).imp fun x H1 ⟨c1, w, e1, o1, er1, d1, p1⟩ =>
    (tG.bind o1 er1 rfl p1).imp fun y H2 ⟨c2, w2, e2, o2, er2, d2, p2⟩ => ?_
  obtain ⟨x1, s1, p2⟩ := post_peek o2 (WDen.mono e2 d1) p2
  obtain ⟨y1, s2, p2⟩ := post_peek o2 d2 p2
  obtain ⟨z, ez, p2⟩ := post_lift p2
  cases x1 with
  | int i =>
    cases y1 with
    | int j =>
      cases s1
      cases s2
      cases ez
      exact ⟨i, j, rfl, done_d o2 p2 (.int _)⟩
    | _ => cases ez
  | _ => cases y1 <;> cases ez
theorem s_repl {o : Expr} {vo : Env → M W} {apos c0 c1 : Pos} {y z : Str} {j k : Nat} (ho : PE X o (vG X Wx vo)) (hyz : (y == z) = false) (hs : isSuper o = false) (hline : (apos.endLine == pos.line) = true) :
    PET X (.Call (.Attribute o "replace" apos) [.Constant (.str y) j c0, .Constant (.str z) k c1] [] pos) (vG X Wx fun ρ => M.bind (vo ρ) fun x => M.bind (peek x) fun x => M.bind (lift (repD y.cps.toList z.cps.toList x)) fun u => M.pure (.d u)) := by
    intro pins s σ H Q h0 I h
    refine CwR.pet_replC ho hyz rfl (base_of hs _) hline pins s σ H Q h0 I ?_
    obtain ⟨c, ρ, oo, e, p⟩ := h
    refine (tG.bind oo e rfl p).imp fun x H1 ⟨c1, w, e1, o1, er1, d1, p1⟩ => ?_
    obtain ⟨x1, s1, p1⟩ := post_peek o1 d1 p1
    obtain ⟨u, eu, p1⟩ := post_lift p1
    cases x1 with
    | str t =>
      cases s1
      obtain ⟨f, rfl⟩ := if_some (show (if fits (t.length + (t.length + 1) * z.cps.toList.length) && decide (1 ≤ y.cps.toList.length) && decide (y.cps.toList ≠ z.cps.toList) then some (D.str (PySem.StrLaws.replL y.cps.toList z.cps.toList t)) else none) = some u from eu)
      obtain ⟨f1, f2, _⟩ := and3 f
      have zl : z.cps.toList.length = z.length := by simp [Str.length]
      have yl : y.cps.toList.length = y.length := by simp [Str.length]
      refine ⟨_, rfl, ?_, ?_⟩
      · rw [S_len, ← zl]
        exact of_decide_eq_true f1
      · have q := done_d o1 p1 (.str _)
        have er := PySem.StrLaws.replace_list (x := ⟨t.toArray⟩) (y := y) (z := z) (by rw [← yl]; exact of_decide_eq_true f2)
        have ez : Txt.replace ⟨t.toArray⟩ y z = ⟨(PySem.StrLaws.replL y.cps.toList z.cps.toList t).toArray⟩ := by
          apply TL.ext_tl
          exact er
        rw [ez]
        exact q
    | _ => cases eu
theorem fmt_ok {K : KF} {mg : Str → Option Value} {c : Cfg} {H : Hp} {x : D} {v : V} {s : List Nat} (sx : See K c.B H x v) (e : fmtD x = some s) : (∃ y : Str, v = .str y ∧ y.length ≤ sizeLine ∧ y = ⟨s.toArray⟩) ∨ ∃ i : Int, v = .int i ∧ i.natAbs.log2 < 1920 ∧ Str.ofString (toString i) = ⟨s.toArray⟩ := by
  cases x with
  | str t =>
    cases sx
    obtain ⟨f, rfl⟩ := if_some e
    exact .inl ⟨_, rfl, by rw [S_len]; exact fits_le f, rfl⟩
  | int i =>
    cases sx
    obtain ⟨f, rfl⟩ := if_some (show (if decide (i.natAbs.log2 < 1920) then some (intStr i) else none) = some s from e)
    exact .inr ⟨i, rfl, of_decide_eq_true f, (S_of _).symm⟩
  | _ => cases e
theorem s_fmt (ha : PE X a (vG X Wx va)) : PE X (.FormattedValue a (-1) none pos) (vG X Wx fun ρ => M.bind (va ρ) fun x => M.bind (peek x) fun x => M.bind (lift (fmtD x)) fun s => M.pure (.d (.str s))) :=
  pe_wk (pe_fmt ha) fun σ H Q ⟨c, ρ, o, e, p⟩ => (tG.bind o e rfl p).imp fun x H1 ⟨c1, w, e1, o1, er1, d1, p1⟩ => by
    obtain ⟨y, sy, p1⟩ := post_peek o1 d1 p1
    obtain ⟨s, es, p1⟩ := post_lift p1
    have q : Q (.str ⟨s.toArray⟩) H1 := p1.now (b := V.str ⟨s.toArray⟩) o1 (.str s)
    rcases fmt_ok (mg := X.mg) sy es with ⟨y, rfl, h, rfl⟩ | ⟨i, rfl, h, ei⟩
    · exact .inl ⟨_, rfl, h, q⟩
    · refine .inr ⟨i, rfl, h, ?_⟩
      show Q (.str (Str.ofString (toString i))) H1
      rw [ei]
      exact q
theorem s_parts : ∀ {es : List Expr} {ms : List Sm}, PEs X Wx es ms → ∃ ts, PJ X es ts ∧ ∀ (acc : List Nat) (σ : L2.St) (H : Hp) (c : Cfg) (ρ : Env) (Q : Str → Hp → Prop) (k : List Nat → M W) (Q' : VK), Ok X.K c H → ERel X.K c ρ σ →
      Post X.K X.mg c H (M.bind (smF ms acc ρ) k c.st) (RW X.K) Q' (fun cls da H' => Wx cls da σ H') →
      (∀ (c1 : Cfg) (H1 : Hp) (s : List Nat), Ok X.K c1 H1 → Post X.K X.mg c1 H1 (k s c1.st) (RW X.K) Q' (fun cls da H' => Wx cls da σ H') → Q ⟨s.toArray⟩ H1) → tJs ts ⟨acc.toArray⟩ σ H Q
  | _, _, .nil => ⟨[], .nil, fun acc σ H c ρ Q k Q' o e p h => h c H acc o p⟩
  | _, _, .cons (m := m) (ms := ms) _ h1 r => by
    obtain ⟨ts, pj, ih⟩ := s_parts r
    refine ⟨_ :: ts, .cons h1 pj, fun acc σ H c ρ Q k Q' o e p h => ?_⟩
    have as : M.bind (smF (m :: ms) acc ρ) k = M.bind (m.v ρ) fun w => M.bind (peek w) fun x => M.bind (lift (strD x)) fun s => M.bind (catC acc s) fun acc => M.bind (smF ms acc ρ) k := by
      show M.bind (M.bind (m.v ρ) _) _ = _
      simp only [bind_assoc']
    rw [as] at p
    refine (tG.bind o e rfl p).imp fun x H1 ⟨c1, w, e1, o1, er1, d1, p1⟩ => ?_
    obtain ⟨y, sy, p2⟩ := post_peek o1 d1 p1
    obtain ⟨s, es, p3⟩ := post_lift p2
    have p4 : Post X.K X.mg c1 H1 ((if fits (acc.length + s.length) then Res.ok (acc ++ s) c1.st else .bad).andThen fun acc => M.bind (smF ms acc ρ) k) (RW X.K) Q' _ := p3
    by_cases f : fits (acc.length + s.length) = true
    · rw [if_pos f] at p4
      have ex : x = .str ⟨s.toArray⟩ := by
        cases y with
        | str t =>
          cases sy
          cases es
          rfl
        | _ => cases es
      refine ⟨_, ex, ?_, ?_⟩
      · rw [S_app, S_len, List.length_append]
        exact fits_le f
      · rw [S_app]
        exact ih (acc ++ s) σ H1 c1 ρ Q k Q' o1 er1 p4 h
    · rw [if_neg f] at p4
      exact p4.elim
theorem s_fs (h : PEs X Wx es ms) (he : 2 ≤ es.length) : PE X (.JoinedStr es pos) (vG X Wx fun ρ => M.bind (smF ms [] ρ) fun s => M.pure (.d (.str s))) := by
  obtain ⟨ts, pj, ih⟩ := s_parts h
  have fin : ∀ (σ : L2.St) (Q : VK) (c1 : Cfg) (H1 : Hp) (s : List Nat), Ok X.K c1 H1 → Post X.K X.mg c1 H1 (M.pure (W.d (.str s)) c1.st) (RW X.K) Q (fun cls da H' => Wx cls da σ H') → Q (.str ⟨s.toArray⟩) H1 := fun σ Q c1 H1 s o p => p.now (b := V.str ⟨s.toArray⟩) o (.str s)
  cases pj with
  | nil => simp at he
  | cons h1 r =>
    cases r with
    | nil => simp at he
    | cons h2 r => exact pe_wk (pe_joined (.cons h1 (.cons h2 r))) fun σ H Q ⟨c, ρ, o, e, p⟩ => ih [] σ H c ρ (fun s H => Q (.str s) H) _ Q o e p (fin σ Q)
def tyN : Ty → String
  | .bool => "bool" | .int => "int" | .str => "str" | .list => "list" | .tuple => "tuple"
def tyS : Ty → Str
  | .bool => "bool" | .int => "int" | .str => "str" | .list => "list" | .tuple => "tuple"
theorem boot_ty : ∀ t : Ty, bootBuiltins (tyS t) = some (.type (tyN t)) := by intro t; cases t <;> decide +kernel
theorem nm_ty : ∀ t : Ty, tyS t ≠ "__name__" ∧ (tyS t == ("__debug__" : Str)) = false := by intro t; cases t <;> decide
theorem kit_tab : ∀ t : Ty, kitB "NoneType" (tyN t) = some false ∧ kitB "bool" (tyN t) = some (isID (.bool true) t) ∧ kitB "int" (tyN t) = some (isID (.int 0) t) ∧ kitB "str" (tyN t) = some (isID (.str []) t) ∧
    kitB "list" (tyN t) = some (isID (.list []) t) ∧ kitB "tuple" (tyN t) = some (isID (.tup []) t) := by intro t; cases t <;> decide +kernel
theorem isI_ty {K : KF} {c : Cfg} {H : Hp} {x : D} {v : V} (o : Ok K c H) (s : SeeS K c.B H x v) : ∃ a : String, TyX K H v (.type a) ∧ ∀ t : Ty, kitB a (tyN t) = some (isID x t) := by
  cases x with
  | non => cases s; exact ⟨_, .base .non, fun t => by rw [(kit_tab t).1]; cases t <;> rfl⟩
  | bool b => cases s; exact ⟨_, .base (.bl b), fun t => by rw [(kit_tab t).2.1]; cases t <;> rfl⟩
  | int i => cases s; exact ⟨_, .base (.int i), fun t => by rw [(kit_tab t).2.2.1]; cases t <;> rfl⟩
  | str z => cases s; exact ⟨_, .base (.str _), fun t => by rw [(kit_tab t).2.2.2.1]; cases t <;> rfl⟩
  | list xs =>
    obtain ⟨a, vs, rfl, h, _⟩ := s
    exact ⟨_, .base (.lst h), fun t => by rw [(kit_tab t).2.2.2.2.1]; cases t <;> rfl⟩
  | tup xs =>
    obtain ⟨a, vs, rfl, h, _⟩ := s
    exact ⟨_, .base (.tup h), fun t => by rw [(kit_tab t).2.2.2.2.2]; cases t <;> rfl⟩
  | rol xs =>
    cases s with
    | rol h _ =>
      have e : ∀ t : Ty, kitB "list" (tyN t) = some (isID (.rol xs) t) := fun t => by rw [(kit_tab t).2.2.2.2.1]; cases t <;> rfl
      rcases o.sub.sql h with (h | ⟨ob, h⟩) | ⟨ob, its, n, hk, hc, _⟩
      · exact ⟨_, .base (.lst h), e⟩
      · exact ⟨_, .base (.frz h), e⟩
      · exact ⟨_, .kList hk hc, e⟩
theorem s_isI {t : Ty} {p2 : Pos} (hg : Gl X "isinstance") (hm : X.mg "isinstance" = none) (hgt : Gl X (tyS t)) (hmt : X.mg (tyS t) = none) (h1 : isStar a = false) (ha : PE X a (vG X Wx va)) :
    PE X (.Call (.Name "isinstance" p) [a, .Name (tyS t) p2] [] pos) (vG X Wx fun ρ => M.bind (va ρ) fun x => M.bind (peekS x) fun x => M.pure (.d (.bool (isID x t)))) := by
  obtain ⟨n1, n2⟩ := nm_ty t
  have hty : PE X (.Name (tyS t) p2) (tC (.ty (tyN t))) := pe_bltn hgt hmt (boot_ty t) rfl n1 n2
  refine pe_wk (pe_callB call_isi hg hm PyProof.Rows.boot_isinstance (pa_cons ha (pa_cons hty pa_nil) (star_ne h1)) (by decide) (by decide) (star_ne h1) rfl) fun σ H Q ⟨c, ρ, o, e, p⟩ => (tG.bind o e rfl p).imp fun x H1 ⟨c1, w, e1, o1, er1, d1, p1⟩ => ?_
  obtain ⟨y, sy, p2⟩ := post_peekS o1 d1 p1
  obtain ⟨ty, h, k⟩ := isI_ty o1 sy
  exact ⟨x, .ty (tyN t), .type ty, .type (tyN t), isID y t, rfl, .ty _, h, kit_ty (k t), p2.now (b := V.bl _) o1 (.bool _)⟩
end
end Cr

namespace Cr
open PySem L2
theorem peek_exc (w : W) (s : Store) (x : Str) (d : Option (Str × D)) (t : Store) : peek w s ≠ .exc x d t := by
  cases w with
  | d y => intro z; cases z
  | ref n =>
    rw [peek_ref]
    intro z
    split at z
    · split at z <;> cases z
    all_goals cases z
theorem freezeN_exc : ∀ (k : Nat) (w : W) (s : Store) (x : Str) (d : Option (Str × D)) (t : Store), freezeN k w s ≠ .exc x d t
  | 0, .d y, _, _, _, _ => fun z => by cases z
  | k + 1, .d y, _, _, _, _ => fun z => by cases z
  | 0, .ref n, _, _, _, _ => fun z => by cases z
  | k + 1, .ref n, s, x, d, t => by
    have items : ∀ (ws : List W) (s : Store) (x : Str) (d : Option (Str × D)) (t : Store), frzItems k ws s ≠ .exc x d t := by
      intro ws
      induction ws with
      | nil => intro s x d t z; cases z
      | cons w ws ih =>
        intro s x d t z
        have z : ((freezeN k w s).andThen fun x s => (frzItems k ws s).andThen fun xs => M.pure (x :: xs)) = .exc x d t := z
        cases r : freezeN k w s with
        | bad => rw [r] at z; cases z
        | exc a b c => exact absurd r (freezeN_exc k w s a b c)
        | ok y s1 =>
          rw [r] at z
          have z : ((frzItems k ws s1).andThen fun xs => M.pure (y :: xs)) = .exc x d t := z
          cases r2 : frzItems k ws s1 with
          | bad => rw [r2] at z; cases z
          | exc a b c => exact absurd r2 (ih s1 a b c)
          | ok ys s2 => rw [r2] at z; cases z
    rw [freezeN_ref]
    intro z
    have fin : ∀ {ws : List W} {f : List D → Store → Res D}, (∀ xs s1, f xs s1 ≠ .exc x d t) → (frzItems k ws s).andThen f ≠ .exc x d t := fun {ws f} hf q => by
      cases r : frzItems k ws s with
      | bad => rw [r] at q; cases q
      | exc a b c => exact absurd r (items ws s a b c)
      | ok ys s1 => rw [r] at q; exact hf _ _ q
    cases e : s[n]? with
    | none => rw [e] at z; cases z
    | some cell =>
      rw [e] at z
      cases cell with
      | frz y => cases z
      | list ws => exact fin (fun xs s1 q => by split at q <;> cases q) z
      | tup ws => exact fin (fun xs s1 q => by split at q <;> cases q) z
section
variable {K : KF} {c : Cfg} {H : Hp}
theorem walksL {a : Addr} {xs : List D} {vs : List V} (h : SqL K c.B a vs) (l : DenL K c.B xs vs) : Walks K (Itl K a) c H xs := fun i c' H' e o => by
  have h1 : SqL K H' a vs := o.sub.sql (e.exB.sql h)
  refine ⟨fun hi => ⟨vs, h1, by rw [← l.length, hi]; exact Nat.le_refl _⟩, fun x hx => ?_⟩
  obtain ⟨v, hv, dv⟩ := l.get hx
  refine ⟨⟨vs, v, h1, hv⟩, fun v2 H2 hy => ?_⟩
  obtain ⟨rfl, hy⟩ := hy
  have ev : v2 = v := Option.some.inj ((hy vs h1).symm.trans hv)
  subst ev
  exact ⟨c', rfl, Ext.refl _ _, o, Den.mono e.exB dv⟩
theorem walksT {a : Addr} {xs : List D} {vs : List V} (h : SqT K c.B a vs) (l : DenL K c.B xs vs) : Walks K (Itt K a) c H xs := fun i c' H' e o => by
  have h1 : SqT K H' a vs := o.sub.sqt (e.exB.sqt h)
  refine ⟨fun hi => ⟨vs, h1, by rw [← l.length, hi]; exact Nat.le_refl _⟩, fun x hx => ?_⟩
  obtain ⟨v, hv, dv⟩ := l.get hx
  refine ⟨⟨vs, v, h1, hv⟩, fun v2 H2 hy => ?_⟩
  obtain ⟨rfl, hy⟩ := hy
  have ev : v2 = v := Option.some.inj ((hy vs h1).symm.trans hv)
  subst ev
  exact ⟨c', rfl, Ext.refl _ _, o, Den.mono e.exB dv⟩
theorem walksS {s : List Nat} : Walks K (Its ⟨s.toArray⟩) c H (s.map fun ch => .str [ch]) := fun i c' H' e o => by
  refine ⟨fun hi => ?_, fun x hx => ?_⟩
  · show (s.toArray).size ≤ i
    simp [hi]
  · rw [List.getElem?_map] at hx
    obtain ⟨ch, hc, rfl⟩ := Option.map_eq_some_iff.mp hx
    have hl := (List.getElem?_eq_some_iff.mp hc).1
    refine ⟨by show i < s.toArray.size; simpa using hl, fun v2 H2 hy => ?_⟩
    obtain ⟨rfl, c2, h2, rfl⟩ := hy
    have h2 : s.toArray[i]? = some c2 := h2
    rw [List.getElem?_toArray, hc] at h2
    cases h2
    exact ⟨c', rfl, Ext.refl _ _, o, .str [ch]⟩
theorem walksR {lo : Int} {n : Nat} : Walks K (Itr lo n) c H (rangeL lo n) := fun i c' H' e o => by
  refine ⟨fun hi => by show n ≤ i; simp [rangeL] at hi; omega, fun x hx => ?_⟩
  unfold rangeL at hx
  rw [List.getElem?_map] at hx
  obtain ⟨k, hk, rfl⟩ := Option.map_eq_some_iff.mp hx
  obtain ⟨hl, hk⟩ := List.getElem?_eq_some_iff.mp hk
  rw [List.length_range] at hl
  rw [List.getElem_range] at hk
  subst hk
  refine ⟨hl, fun v2 H2 hy => ?_⟩
  obtain ⟨rfl, rfl⟩ := hy
  exact ⟨c', rfl, Ext.refl _ _, o, .int _⟩
theorem walksRC {lo st : Int} {n : Nat} : Walks K (Itc lo st n) c H ((List.range n).map fun (k : Nat) => D.int (lo + (k : Int) * st)) := fun i c' H' e o => by
  refine ⟨fun hi => by show n ≤ i; simp at hi; omega, fun x hx => ?_⟩
  rw [List.getElem?_map] at hx
  obtain ⟨k, hk, rfl⟩ := Option.map_eq_some_iff.mp hx
  obtain ⟨hl, hk⟩ := List.getElem?_eq_some_iff.mp hk
  rw [List.length_range] at hl
  rw [List.getElem_range] at hk
  subst hk
  refine ⟨hl, fun v2 H2 hy => ?_⟩
  obtain ⟨rfl, rfl⟩ := hy
  exact ⟨c', rfl, Ext.refl _ _, o, .int _⟩
theorem walksE {a : Addr} {xs : List D} {vs : List V} (h : SqL K c.B a vs) (l : DenL K c.B xs vs) : Walks K (Ite K a) c H (enumL xs) := fun i c' H' e o => by
  have h1 : SqL K H' a vs := o.sub.sql (e.exB.sql h)
  refine ⟨fun hi => ⟨vs, h1, by rw [← l.length, hi]; simp [enumL]⟩, fun x hx => ?_⟩
  unfold enumL at hx
  rw [List.getElem?_map] at hx
  obtain ⟨p, hp, rfl⟩ := Option.map_eq_some_iff.mp hx
  rw [List.getElem?_zipIdx] at hp
  obtain ⟨y, hy, rfl⟩ := Option.map_eq_some_iff.mp hp
  obtain ⟨v, hv, dv⟩ := l.get hy
  refine ⟨⟨vs, v, h1, hv⟩, fun v2 H2 hy2 => ?_⟩
  obtain ⟨T, z, rfl, hT, rfl, hz⟩ := hy2
  have ev : z = v := Option.some.inj ((hz vs h1).symm.trans hv)
  subst ev
  obtain ⟨o2, e2⟩ := new_data (o := HO.tup [.int (i : Nat), z]) o hT
  refine ⟨⟨upd c'.B T (.tup [.int (i : Nat), z]), c'.pl, c'.st⟩, rfl, e2, o2, .tup upd_same (.cons ?_ (.cons (Den.mono (e.exB.trans e2.exB) dv) .nil))⟩
  have : ((0 + i : Nat) : Int) = (i : Int) := by omega
  show Den K _ (D.int ((0 + i : Nat) : Int)) _
  rw [this]
  exact .int _
theorem walksZ {a b : Addr} {xs ys : List D} {vs us : List V} (h : SqL K c.B a vs) (l : DenL K c.B xs vs) (h' : SqL K c.B b us) (l' : DenL K c.B ys us) : Walks K (Itz K a b) c H (zipL xs ys) := fun i c' H' e o => by
  have h1 : SqL K H' a vs := o.sub.sql (e.exB.sql h)
  have h2 : SqL K H' b us := o.sub.sql (e.exB.sql h')
  refine ⟨fun hi => ⟨vs, us, h1, h2, ?_⟩, fun x hx => ?_⟩
  · have q : i = min xs.length ys.length := by simpa [zipL] using hi
    rw [← l.length, ← l'.length]
    omega
  unfold zipL at hx
  rw [List.getElem?_map] at hx
  obtain ⟨p, hp, rfl⟩ := Option.map_eq_some_iff.mp hx
  obtain ⟨hp1, hp2⟩ := List.getElem?_zip_eq_some.mp hp
  obtain ⟨v, hv, dv⟩ := l.get hp1
  obtain ⟨u, hu, du⟩ := l'.get hp2
  refine ⟨⟨vs, us, v, u, h1, h2, hv, hu⟩, fun v2 H2 hy2 => ?_⟩
  obtain ⟨T, z, z2, rfl, hT, rfl, hz, hz2⟩ := hy2
  have ev : z = v := Option.some.inj ((hz vs h1).symm.trans hv)
  have eu : z2 = u := Option.some.inj ((hz2 us h2).symm.trans hu)
  subst ev
  subst eu
  obtain ⟨o2, e2⟩ := new_data (o := HO.tup [z, z2]) o hT
  exact ⟨⟨upd c'.B T (.tup [z, z2]), c'.pl, c'.st⟩, rfl, e2, o2, .tup upd_same (.cons (Den.mono (e.exB.trans e2.exB) dv) (.cons (Den.mono (e.exB.trans e2.exB) du) .nil))⟩
end
section
variable {X : Cx} {Wx : WX} {tg a b e : Expr} {es : List Expr} {pos p : Pos} {ms : List Sm} {va vb : Env → M W}
/-- a list, a tuple, a text: by what the value is -/
theorem s_walk (ha : PE X a (vG X Wx va)) : PI X tg a (iG X Wx (vI va)) := by
  refine pi_wk (pi_or (pi_list ha) (pi_or (pi_tup ha) (pi_str ha))) fun σ H R ⟨c, ρ, o, e, p⟩ => ?_
  have p : Post X.K X.mg c H ((va ρ c.st).andThen fun w => M.bind (freeze w) fun x => lift (walkD x)) (RI X.K) R _ := p
  have go : ∀ {Q : VK}, (∀ c1 H1 w v, (va ρ c.st) = .ok w c1.st → Ext c H c1 H1 → Ok X.K c1 H1 → WDen X.K c1 w v → Q v H1) → (∀ x d st, va ρ c.st = .exc x d st → ∀ c' H' cls da, c'.st = st → Ext c H c' H' → Ok X.K c' H' → XR X.K X.mg c'.B x d cls da → Wx cls da σ H') → va ρ c.st ≠ .bad → vG X Wx va σ H Q := fun {Q} h1 h2 h3 => by
    refine ⟨c, ρ, o, e, ?_⟩
    cases r : va ρ c.st with
    | bad => exact absurd r h3
    | exc x d st => exact h2 x d st r
    | ok w st =>
      intro c1 H1 v q1 q2 q3 q4
      exact h1 c1 H1 w v (by rw [q1]; exact r) q2 q3 q4
  cases r : va ρ c.st with
  | bad =>
    rw [r] at p
    exact p.elim
  | exc x d st =>
    rw [r] at p
    refine .inl (go (fun c1 H1 w v h => by rw [r] at h; cases h) (fun x' d' st' h => ?_) (by rw [r]; intro h; cases h))
    rw [r] at h
    cases h
    exact p
  | ok w st =>
    rw [r] at p
    have cont : ∀ {Q : VK}, (∀ c1 H1 v x, c1.st = st → Ok X.K c1 H1 → WDen X.K c1 w v → (∃ c2, freeze w st = .ok x c2.st ∧ Ext c1 H1 c2 H1 ∧ Ok X.K c2 H1 ∧ Den X.K c2.B x v ∧ Post X.K X.mg c2 H1 (lift (walkD x) c2.st) (RI X.K) R (fun cls da H' => Wx cls da σ H')) → Q v H1) → vG X Wx va σ H Q := fun {Q} h => by
      refine go (fun c1 H1 w' v h1 h2 h3 h4 => ?_) (fun x d st' h => by rw [r] at h; cases h) (by rw [r]; intro h; cases h)
      rw [r] at h1
      cases h1
      have p1 : Post X.K X.mg c1 H1 ((freeze w c1.st).andThen fun x => lift (walkD x)) (RI X.K) R (fun cls da H' => Wx cls da σ H') := Post.later h3 h2 p
      cases fz : freeze w c1.st with
      | bad =>
        rw [fz] at p1
        exact p1.elim
      | exc x d st2 => exact absurd fz (freezeN_exc 6 w _ _ _ _)
      | ok x st2 =>
        rw [fz] at p1
        obtain ⟨c2, z, e2, o2, d2⟩ := freeze_ok h3 h4 fz
        subst z
        exact h c1 H1 v x rfl h3 h4 ⟨c2, fz, e2, o2, d2, Post.later o2 e2 p1⟩
    -- the kind of data is the same in every run
    have kind : ∀ x st2, freeze w st = .ok x st2 → iList X.K (vG X Wx va) σ H R ∨ iTup X.K (vG X Wx va) σ H R ∨ iStr (vG X Wx va) σ H R := fun x st2 fz => by
      cases x with
      | list xs =>
        refine .inl (cont fun c1 H1 v y h1 h3 h4 ⟨c2, f2, e2, o2, d2, p2⟩ => ?_)
        rw [fz] at f2
        cases f2
        cases d2 with
        | list hb l => exact ⟨_, rfl, ⟨_, o2.sub.sql (SqL.of hb)⟩, p2.now (b := Itl X.K _) o2 (walksL (SqL.of hb) l)⟩
      | rol xs =>
        refine .inl (cont fun c1 H1 v y h1 h3 h4 ⟨c2, f2, e2, o2, d2, p2⟩ => ?_)
        rw [fz] at f2
        cases f2
        cases d2 with
        | rol hb l => exact ⟨_, rfl, ⟨_, o2.sub.sql hb⟩, p2.now (b := Itl X.K _) o2 (walksL hb l)⟩
      | tup xs =>
        refine .inr (.inl (cont fun c1 H1 v y h1 h3 h4 ⟨c2, f2, e2, o2, d2, p2⟩ => ?_))
        rw [fz] at f2
        cases f2
        cases d2 with
        | tup hb l => exact ⟨_, rfl, ⟨_, o2.sub.sqt (SqT.of hb)⟩, p2.now (b := Itt X.K _) o2 (walksT (SqT.of hb) l)⟩
      | str s =>
        refine .inr (.inr (cont fun c1 H1 v y h1 h3 h4 ⟨c2, f2, e2, o2, d2, p2⟩ => ?_))
        rw [fz] at f2
        cases f2
        cases d2
        have p2 : Post X.K X.mg c2 H1 ((lift (if fits s.length then some (s.map fun c => D.str [c]) else none)) c2.st) (RI X.K) R _ := p2
        by_cases f : fits s.length = true
        · rw [if_pos f] at p2
          exact ⟨_, rfl, p2.now (b := Its _) o2 walksS⟩
        · rw [if_neg f] at p2
          exact p2.elim
      | non => exact .inl (cont fun c1 H1 v y h1 h3 h4 ⟨c2, f2, e2, o2, d2, p2⟩ => by rw [fz] at f2; cases f2; exact p2.elim)
      | bool _ => exact .inl (cont fun c1 H1 v y h1 h3 h4 ⟨c2, f2, e2, o2, d2, p2⟩ => by rw [fz] at f2; cases f2; exact p2.elim)
      | int _ => exact .inl (cont fun c1 H1 v y h1 h3 h4 ⟨c2, f2, e2, o2, d2, p2⟩ => by rw [fz] at f2; cases f2; exact p2.elim)
    cases fz : freeze w st with
    | ok x st2 => exact kind x st2 fz
    | bad =>
      have p : Post X.K X.mg c H ((freeze w st).andThen fun x => lift (walkD x)) (RI X.K) R _ := p
      rw [fz] at p
      exact p.elim
    | exc x d st2 => exact absurd fz (freezeN_exc 6 w _ _ _ _)
theorem smL_len : ∀ {ms : List Sm} {ρ : Env} {s s' : Store} {ws : List W}, smL ms ρ s = .ok ws s' → ws.length = ms.length
  | [], _, _, _, _, h => by cases h; rfl
  | m :: ms, ρ, s, s', ws, h => by
    have h : ((m.v ρ s).andThen fun w => M.bind (smL ms ρ) fun ws => M.pure (w :: ws)) = .ok ws s' := h
    cases r : m.v ρ s with
    | bad => rw [r] at h; cases h
    | exc _ _ _ => rw [r] at h; cases h
    | ok w s1 =>
      rw [r] at h
      have h : ((smL ms ρ s1).andThen fun ws => M.pure (w :: ws)) = .ok ws s' := h
      cases r2 : smL ms ρ s1 with
      | bad => rw [r2] at h; cases h
      | exc _ _ _ => rw [r2] at h; cases h
      | ok us s2 =>
        rw [r2] at h
        cases h
        exact congrArg (· + 1) (smL_len r2)
theorem SeeL.length {K : KF} {B H : Hp} : ∀ {xs : List D} {vs : List V}, SeeL K B H xs vs → xs.length = vs.length
  | _, _, .nil => rfl
  | _, _, .cons _ l => congrArg (· + 1) (SeeL.length l)
theorem range_len {c : Cfg} {H : Hp} {σ : L2.St} {R : It → Hp → Prop} (q : iG X Wx (fun ρ => M.bind (smL ms ρ) fun ws => M.bind (peeks ws) fun xs => lift (rangeD xs)) σ H R) :
    lG X Wx (smL ms) σ H fun vs H1 => ∃ c1 xs, Ok X.K c1 H1 ∧ SeeL X.K c1.B H1 xs vs ∧ xs.length = ms.length ∧ ∃ ys, rangeD xs = some ys ∧ ∀ J, Walks X.K J c1 H1 ys → R J H1 := by
  obtain ⟨c, ρ, o, e, p⟩ := q
  refine (tG.bindE o e rfl p).imp fun vs H1 ⟨c1, ws, e0, e1, o1, er1, d1, p1⟩ => ?_
  obtain ⟨xs, sx, p2⟩ := post_peeks o1 d1 p1
  refine ⟨c1, xs, o1, sx, ?_, ?_⟩
  · rw [sx.length, ← d1.length, smL_len e0]
  · cases er : rangeD xs with
    | none =>
      rw [er] at p2
      exact p2.elim
    | some ys =>
      rw [er] at p2
      exact ⟨ys, rfl, fun J w => p2.now (b := J) o1 w⟩
theorem see_int {K : KF} {B H : Hp} {x : D} {v : V} {i : Int} (s : See K B H x v) (e : x = .int i) : v = .int i := by
  subst e
  cases s
  rfl
theorem s_range (hg : Gl X "range") (hm : X.mg "range" = none) (hl : es.length ≤ 3) (h : PEs X Wx es ms) : PI X tg (.Call (.Name "range" p) es [] pos) (iG X Wx fun ρ => M.bind (smL ms ρ) fun ws => M.bind (peeks ws) fun xs => lift (rangeD xs)) := by
  have small : ∀ {j : Int}, small62 j = true → -(2 ^ 62) ≤ j ∧ j < 2 ^ 62 := fun {j} h => of_decide_eq_true h
  cases h with
  | nil => exact pi_none fun σ H Q ⟨c, ρ, o, e, p⟩ => p.elim
  | @cons e1 es1 m1 ms1 h1 k1 r1 =>
    cases r1 with
    | nil =>
      refine pi_wk (pi_range1 hg hm (s_args (.cons h1 k1 .nil)) (star_ne h1)) fun σ H R q => (range_len (c := ⟨H, [], []⟩) (H := H) q).imp fun vs H1 ⟨c1, xs, o1, sx, hl, ys, er, k⟩ => ?_
      match xs, sx, hl, er with
      | [x], .cons s1 .nil, _, er =>
        cases x with
        | int j =>
          obtain ⟨f, rfl⟩ := if_some (show (if small62 j then some (rangeL 0 j.toNat) else none) = some ys from er)
          obtain ⟨f1, f2⟩ := small f
          cases s1
          exact ⟨j, rfl, f1, f2, k _ walksR⟩
        | _ => cases er
    | @cons e2 es2 m2 ms2 h2 k2 r2 =>
      cases r2 with
      | nil =>
        refine pi_wk (pi_range2 hg hm (s_args (.cons h1 k1 (.cons h2 k2 .nil))) (by rw [star_ne h1, star_ne h2]; rfl) (by rw [star_ne h2]; rfl)) fun σ H R q => (range_len (c := ⟨H, [], []⟩) (H := H) q).imp fun vs H1 ⟨c1, xs, o1, sx, hl, ys, er, k⟩ => ?_
        match xs, sx, hl, er with
        | [x, y], .cons s1 (.cons s2 .nil), _, er =>
          cases x with
          | int i =>
            cases y with
            | int j =>
              obtain ⟨f, rfl⟩ := if_some (show (if small62 i && small62 j then some (rangeL i (j - i).toNat) else none) = some ys from er)
              obtain ⟨fi, fj⟩ := and2 f
              obtain ⟨f1, f2⟩ := small fi
              obtain ⟨f3, f4⟩ := small fj
              cases s1
              cases s2
              exact ⟨i, j, rfl, ⟨f1, f2, f3, f4⟩, k _ walksR⟩
            | _ => cases er
          | _ => cases er
      | @cons e3 es3 m3 ms3 h3 k3 r3 =>
        cases r3 with
        | nil =>
          refine pi_wk (pi_range3 hg hm (s_args (.cons h1 k1 (.cons h2 k2 (.cons h3 k3 .nil)))) (star_ne h1) (star_plain (PEs.plain (.cons h2 k2 (.cons h3 k3 .nil))))) fun σ H R q => (range_len (c := ⟨H, [], []⟩) (H := H) q).imp fun vs H1 ⟨c1, xs, o1, sx, hl, ys, er, k⟩ => ?_
          match xs, sx, hl, er with
          | [x, y, z], .cons s1 (.cons s2 (.cons s3 .nil)), _, er =>
            cases x with
            | int i =>
              cases y with
              | int j =>
                cases z with
                | int st =>
                  obtain ⟨f, rfl⟩ := if_some (show (if decide (st ≠ 0) && decide (st.natAbs < 1073741824) && Builtin.Range.small i j st && decide (0 ≤ Builtin.Range.rangeSize i j st) then some (rangeC i j st) else none) = some ys from er)
                  obtain ⟨f, f4⟩ := and2 f
                  obtain ⟨f1, f2, f3⟩ := and3 f
                  cases s1
                  cases s2
                  cases s3
                  exact ⟨i, j, st, rangeN i j st, rfl, ⟨of_decide_eq_true f1, of_decide_eq_true f2, f3, (Int.toNat_of_nonneg (of_decide_eq_true f4)).symm⟩, k _ walksRC⟩
                | _ => cases er
              | _ => cases er
            | _ => cases er
        | @cons e4 es4 m4 ms4 h4 k4 r4 => simp at hl
theorem s_enum {elts : List Expr} {kk : Nat} {tpos : Pos} (hg : Gl X "enumerate") (hm : X.mg "enumerate" = none) (h1 : isStar a = false) (ha : PE X a (vG X Wx va)) :
    PI X (.Tuple elts kk tpos) (.Call (.Name "enumerate" p) [a] [] pos) (iG X Wx fun ρ => M.bind (va ρ) fun w => M.bind (freeze w) fun x => match x with
      | .list xs => M.pure (enumL xs)
      | _ => M.bad) := by
  refine pi_wk (pi_enum hg hm (pa_cons ha pa_nil (star_ne h1)) (star_ne h1)) fun σ H R ⟨c, ρ, o, e, p⟩ => (tG.bind o e rfl p).imp fun v H1 ⟨c1, w, e1, o1, er1, d1, p1⟩ => ?_
  obtain ⟨c2, x, e2, o2, d2, p2⟩ := post_freeze o1 d1 p1
  cases d2 with
  | list hb l => exact ⟨_, _, rfl, o2.sub.sql (SqL.of hb), p2.now (b := Ite X.K _) o2 (walksE (SqL.of hb) l)⟩
  | _ => exact p2.elim
theorem s_zip {elts : List Expr} {kk : Nat} {tpos : Pos} (hg : Gl X "zip") (hm : X.mg "zip" = none) (h1 : isStar a = false) (h2 : isStar b = false) (ha : PE X a (vG X Wx va)) (hb : PE X b (vG X Wx vb)) :
    PI X (.Tuple elts kk tpos) (.Call (.Name "zip" p) [a, b] [] pos) (iG X Wx fun ρ => M.bind (va ρ) fun w => M.bind (vb ρ) fun u => M.bind (freeze w) fun x => M.bind (freeze u) fun y => match x, y with
      | .list xs, .list ys => M.pure (zipL xs ys)
      | _, _ => M.bad) := by
  refine pi_wk (pi_zip hg hm (pa_cons ha (pa_cons hb pa_nil (star_ne h2)) (star_ne h1)) (star_ne h1) (by rw [star_ne h2]; rfl)) fun σ H R ⟨c, ρ, o, e, p⟩ => (tG.bind o e rfl p).imp fun v H1 ⟨c1, w, e1, o1, er1, d1, p1⟩ => (tG.bind o1 er1 rfl p1).imp fun u H2 ⟨c2, w2, e2, o2, er2, d2, p2⟩ => ?_
  obtain ⟨c3, x, e3, o3, d3, p3⟩ := post_freeze o2 (d1.mono e2) p2
  obtain ⟨c4, y, e4, o4, d4, p4⟩ := post_freeze o3 (d2.mono e3) p3
  cases d3 with
  | list hb l =>
    cases d4 with
    | list hb2 l2 => exact ⟨_, _, _, _, rfl, o4.sub.sql (SqL.of (e4.exB _ _ hb)), o4.sub.sql (SqL.of hb2), p4.now (b := Itz X.K _ _) o4 (walksZ (SqL.of (e4.exB _ _ hb)) (l.mono e4.exB) (SqL.of hb2) l2)⟩
    | _ => exact p4.elim
  | _ => exact p4.elim
theorem peek_st {w : W} {x : D} {s s' : Store} (h : peek w s = .ok x s') : s' = s := by
  cases w with
  | d y =>
    cases h
    rfl
  | ref n =>
    rw [peek_ref] at h
    split at h
    · split at h
      · cases h; rfl
      · cases h
    · cases h
    · cases h; rfl
    · cases h
def tRevS (te : TE) : TE := fun σ H Q => te σ H fun x H1 => ∃ z : Str, x = .str z ∧ z.length ≤ sizeLine ∧ Q (.str ⟨z.cps.toList.reverse.toArray⟩) H1
theorem rev_list (l : List Nat) : ((List.range l.length).map fun k => l.toArray.getD (l.length - 1 - k) 0) = l.reverse := by
  apply List.ext_getElem
  · simp
  · intro i h1 h2
    have hi : i < l.length := by simpa using h1
    have hj : l.length - 1 - i < l.length := by omega
    rw [List.getElem_map, List.getElem_range, List.getElem_reverse]
    simp [Array.getD, hj]
theorem pe_revS {te : TE} {j : Nat} {p1 p2 p3 : Pos} (he : PE X e te) : PE X (.Subscript e (.Slice none none (some (.UnaryOp .USub (.Constant (.int 1) j p1) p2)) p3) pos) (tRevS te) := by
  constructor
  intro pins s σ H Q I h
  apply PyProof.Rows.Subscript_
  refine thn (he.run pins s σ H _ I h) ?_
  rintro v s1 ⟨x, H1, I1, r1, z, rfl, hz, q⟩
  obtain ⟨t, rfl⟩ := r1
  have hst : PO X (some (.UnaryOp .USub (.Constant (.int 1) j p1) p2)) (tPart (tUn (rU fun i => .int (-i)) (tC (.int 1)))) := po_some (pe_un un_neg pe_int)
  apply PySem.wpAny_Slice
  refine thn (po_none.run pins s1 σ H1 (fun o H2 => o = none ∧ H2 = H1) I1 ⟨rfl, rfl⟩) ?_
  rintro vl s2 ⟨l, H2, I2, pl, rfl, rfl⟩
  refine thn (po_none.run pins s2 σ H2 (fun o H3 => o = none ∧ H3 = H2) I2 ⟨rfl, rfl⟩) ?_
  rintro vu s3 ⟨u, H3, I3, pu, rfl, rfl⟩
  refine thn (hst.run pins s3 σ H3 (fun o H4 => o = some (-1) ∧ H4 = H3) I3 ⟨1, rfl, -1, rfl, rfl, rfl⟩) ?_
  rintro vs s4 ⟨o, H4, I4, ps, rfl, rfl⟩
  cases pl
  cases pu
  cases ps with
  | int _ tk =>
  apply PyProof.Rows.tail_any (T := "str") (typeIs_str _ _ _) PySem.F.slot_str_getitem.lookup (hs := by with_unfolding_all rfl) (ops := [.str z t, .ref s4.heap.objs.size])
  refine PySem.wpAny_getItem_str_slice (l := none) (u := none) (st := some (-1, tk)) ⟨_, Heap.get?_push_size _ rfl, rfl, rfl⟩ rfl ?_
  have ez : PySem.Txt.sliceBy z none none (-1, tk) = ⟨z.cps.toList.reverse.toArray⟩ := by
    apply TL.ext_tl
    show (PySem.Txt.sliceBy z none none (-1, tk)).cps.toList = _
    rw [PyProof.Rows.step_rev_list, ← rev_list z.cps.toList]
    rfl
  show Made.post (Made.str (PySem.Txt.sliceBy z none none (-1, tk))) _ _
  rw [ez]
  refine ⟨?_, .str _, H4, ?_, ⟨_, rfl⟩, q⟩
  · show (z.cps.toList.reverse.toArray).size ≤ sizeLine
    have : z.length = z.cps.size := rfl
    simp
    omega
  · exact (I4.kept (t' := s4.toks) fun b ob q => Heap.get?_push_of_some _ q).tok _
theorem DenL.reverse {K : KF} {B : Hp} : ∀ {xs : List D} {vs : List V}, DenL K B xs vs → DenL K B xs.reverse vs.reverse
  | _, _, .nil => .nil
  | _, _, .cons h l => by
    rw [List.reverse_cons, List.reverse_cons]
    exact (DenL.reverse l).append (.cons h .nil)
theorem s_rev {j : Nat} {p1 p2 p3 : Pos} (ha : PE X a (vG X Wx va)) :
    PE X (.Subscript a (.Slice none none (some (.UnaryOp .USub (.Constant (.int 1) j p1) p2)) p3) pos) (vG X Wx fun ρ => M.bind (va ρ) fun x => M.bind (peek x) fun x => M.bind (lift (revD x)) fun z => alloc false z) := by
  refine ⟨fun pins s σ H Q I ⟨c, ρ, o, e, p⟩ => ?_⟩
  have p : Post X.K X.mg c H ((va ρ c.st).andThen fun w => M.bind (peek w) fun x => M.bind (lift (revD x)) fun z => alloc false z) (RW X.K) Q _ := p
  -- what the text's and the list's ways ask, by the outcome
  have go : ∀ {Q' : VK}, (∀ c1 H1 w v x, va ρ c.st = .ok w c1.st → Ok X.K c1 H1 → WDen X.K c1 w v → See X.K c1.B H1 x v → peek w c1.st = .ok x c1.st → Post X.K X.mg c1 H1 (M.bind (lift (revD x)) (fun z => alloc false z) c1.st) (RW X.K) Q (fun cls da H' => Wx cls da σ H') → Q' v H1) → vG X Wx va σ H Q' := fun {Q'} h => by
    refine ⟨c, ρ, o, e, ?_⟩
    show Post X.K X.mg c H (va ρ c.st) _ _ _
    cases r : va ρ c.st with
    | bad =>
      rw [r] at p
      exact p.elim
    | exc x d st =>
      rw [r] at p
      exact p
    | ok w st =>
      rw [r] at p
      intro c1 H1 v q1 q2 q3 q4
      subst q1
      have p1 : Post X.K X.mg c1 H1 ((peek w c1.st).andThen fun x => M.bind (lift (revD x)) fun z => alloc false z) (RW X.K) Q (fun cls da H' => Wx cls da σ H') := Post.later q3 q2 p
      cases fz : peek w c1.st with
      | bad =>
        rw [fz] at p1
        exact p1.elim
      | exc x d st2 => exact absurd fz (peek_exc w _ _ _ _)
      | ok x st2 =>
        rw [fz] at p1
        have est : st2 = c1.st := peek_st fz
        subst est
        obtain ⟨y, sy, py⟩ := post_peek (k := fun y s => if True then Res.ok y s else .bad) (R := fun c' _ (a b : D) => a = b) (Q := fun y' H' => y' = x) (E := fun _ _ _ => True) q3 q4 (by
          show Post X.K X.mg c1 H1 ((peek w c1.st).andThen _) _ _ _
          rw [fz]
          intro c' H' b _ _ _ hb
          exact hb.symm)
        have ey : y = x := py c1 H1 y rfl (Ext.refl _ _) q3 rfl
        subst ey
        exact h c1 H1 w v y r q3 q4 sy fz p1
  cases r : va ρ c.st with
  | bad =>
    rw [r] at p
    exact p.elim
  | exc x d st => exact (pe_revL ha).run pins s σ H Q I (go fun c1 H1 w v x h => by rw [r] at h; cases h)
  | ok w st =>
    cases fz : peek w st with
    | bad =>
      have p : Post X.K X.mg c H ((va ρ c.st).andThen fun w => M.bind (peek w) fun x => M.bind (lift (revD x)) fun z => alloc false z) (RW X.K) Q _ := p
      rw [r] at p
      have p : Post X.K X.mg c H ((peek w st).andThen fun x => M.bind (lift (revD x)) fun z => alloc false z) (RW X.K) Q _ := p
      rw [fz] at p
      exact p.elim
    | exc x d st2 => exact absurd fz (peek_exc w _ _ _ _)
    | ok x0 st2 =>
      have same : ∀ {c1 : Cfg} {w' : W} {x : D}, va ρ c.st = .ok w' c1.st → peek w' c1.st = .ok x c1.st → x = x0 := fun {c1 w' x} h1 h2 => by
        rw [r] at h1
        cases h1
        rw [fz] at h2
        cases h2
        rfl
      cases x0 with
      | str t =>
        refine (pe_revS ha).run pins s σ H Q I (go fun c1 H1 w' v x h1 o1 d1 sx h2 p1 => ?_)
        have ex := same h1 h2
        subst ex
        cases sx
        obtain ⟨z, ez, p2⟩ := post_lift p1
        obtain ⟨f, rfl⟩ := if_some ez
        exact ⟨_, rfl, by rw [S_len]; exact fits_le f, alloc_old o1 (by intro _ z; cases z) p2 (.str _)⟩
      | list ys =>
        refine (pe_revL ha).run pins s σ H Q I (go fun c1 H1 w' v x h1 o1 d1 sx h2 p1 => ?_)
        have ex := same h1 h2
        subst ex
        obtain ⟨pa, vs, rfl, hh, l⟩ := sx
        obtain ⟨z, ez, p2⟩ := post_lift p1
        cases ez
        exact ⟨pa, vs, rfl, SqL.of hh, alloc_new o1 p2 l.reverse⟩
      | rol ys =>
        refine (pe_revL ha).run pins s σ H Q I (go fun c1 H1 w' v x h1 o1 d1 sx h2 p1 => ?_)
        have ex := same h1 h2
        subst ex
        obtain ⟨z, ez, p2⟩ := post_lift p1
        cases ez
        cases sx with
        | rol hh l => exact ⟨_, _, rfl, o1.sub.sql hh, alloc_new o1 p2 l.reverse⟩
      | _ =>
        refine (pe_revL ha).run pins s σ H Q I (go fun c1 H1 w' v x h1 o1 d1 sx h2 p1 => ?_)
        have ex := same h1 h2
        subst ex
        exact p1.elim
end
end Cr

namespace Cr
open PySem L2
mutual
def Pt.slots : Pt → List Nat
  | .name i => [i]
  | .tup ps => Pts.slots ps
def Pts.slots : List Pt → List Nat
  | [] => []
  | p :: ps => Pt.slots p ++ Pts.slots ps
end
/-- σ' differs from σ at these places alone -/
def Off (is : List Nat) (σ σ' : L2.St) : Prop := σ'.length = σ.length ∧ ∀ j, j ∉ is → σ'[j]? = σ[j]?
theorem Off.refl (is : List Nat) (σ : L2.St) : Off is σ σ := ⟨rfl, fun _ _ => rfl⟩
theorem Off.trans {is js : List Nat} {σ σ1 σ2 : L2.St} (a : Off is σ σ1) (b : Off js σ1 σ2) : Off (is ++ js) σ σ2 := ⟨b.1.trans a.1, fun j h => by
  rw [b.2 j fun z => h (List.mem_append_right _ z), a.2 j fun z => h (List.mem_append_left _ z)]⟩
/-- a target's reading -/
def gP (K : KF) (p : Pt) : TG := fun v σ H Q => ∃ c ρ w ρ', Ok K c H ∧ ERel K c ρ σ ∧ WDen K c w v ∧ bindPt p w ρ = some ρ' ∧ ∀ σ', ERel K c ρ' σ' → Off p.slots σ σ' → Q σ' H
def gPs (K : KF) (ps : List Pt) : TGs := fun vs σ H Q => ∃ c ρ xs ρ', Ok K c H ∧ ERel K c ρ σ ∧ DenL K c.B xs vs ∧ bindPts ps xs ρ = some ρ' ∧ ∀ σ', ERel K c ρ' σ' → Off (Pts.slots ps) σ σ' → Q σ' H
theorem pg_wk {X : Cx} {e : Expr} {t t' : TG} (h : PG X e t) (w : ∀ v σ H Q, t' v σ H Q → t v σ H Q) : PG X e t' := ⟨fun pins s σ H v u Q I r q => h.run pins s σ H v u Q I r (w v σ H Q q)⟩
theorem pgs_wk {X : Cx} {e : List Expr} {t t' : TGs} (h : PGs X e t) (w : ∀ v σ H Q, t' v σ H Q → t v σ H Q) : PGs X e t' := ⟨fun pins s σ H v u Q I r q => h.run pins s σ H v u Q I r (w v σ H Q q)⟩
section
variable {X : Cx} {pos : Pos}
theorem s_name {i : Nat} {x : Str} (hN : X.N.Nodup) (hi : X.N[i]? = some x) (hx : Loc X.env.scope x) (hf : X.fn x = true ∨ X.env.scope.names.lookup x = some .local) : PG X (.Name x pos) (gP X.K (.name i)) :=
  pg_wk (pg_name hN hi hx hf) fun v σ H Q ⟨c, ρ, w, ρ', o, e, d, b, k⟩ => by
    cases b
    exact k _ (e.set d) ⟨by simp, fun j hj => List.getElem?_set_ne (by intro z; subst z; exact hj (by simp [Pt.slots]))⟩
/-- targets, one by one -/
inductive PPt (X : Cx) : List Expr → List Pt → Prop
  | nil : PPt X [] []
  | cons {e : Expr} {es : List Expr} {p : Pt} {ps : List Pt} : isStar e = false → PG X e (gP X.K p) → PPt X es ps → PPt X (e :: es) (p :: ps)
theorem assignEach_ne {e : Expr} {es : List Expr} {env : PySem.Env} (h : isStar e = false) : assignEach (e :: es) env = (false, assign e env) :: assignEach es env := by
  cases e <;> first | rfl | cases h
theorem assignEach_len {env : PySem.Env} : ∀ {es : List Expr} {ps : List Pt}, PPt X es ps → (assignEach es env).length = ps.length ∧ (assignEach es env).findIdx? (·.1) = none
  | _, _, .nil => ⟨rfl, rfl⟩
  | _, _, .cons h _ r => by
    obtain ⟨h1, h2⟩ := assignEach_len (env := env) r
    rw [assignEach_ne h]
    refine ⟨congrArg (· + 1) h1, ?_⟩
    rw [List.findIdx?_cons]
    simp only [Bool.false_eq_true, if_false, h2]
    rfl
theorem s_names : ∀ {es : List Expr} {ps : List Pt}, PPt X es ps → PGs X es (gPs X.K ps)
  | _, _, .nil => pgs_wk pgs_nil fun vs σ H Q ⟨c, ρ, xs, ρ', o, e, d, b, k⟩ => by
    cases d with
    | nil =>
      cases b
      exact ⟨rfl, k σ e (Off.refl _ _)⟩
    | cons _ _ => cases b
  | _, _, .cons h g r => pgs_wk (pgs_cons g (s_names r) (by rw [assignEach_ne h]; rfl)) fun vs σ H Q ⟨c, ρ, xs, ρ', o, e, d, b, k⟩ => by
    cases d with
    | nil => cases b
    | cons d1 d2 =>
      obtain ⟨ρ1, b1, b2⟩ := Option.bind_eq_some_iff.mp b
      exact ⟨_, _, rfl, c, ρ, .d _, ρ1, o, e, d1, b1, fun σ1 e1 f1 => ⟨c, ρ1, _, ρ', o, e1, d2, b2, fun σ2 e2 f2 => k σ2 e2 (f1.trans f2)⟩⟩
theorem bindPts_len : ∀ {ps : List Pt} {xs : List D} {ρ ρ' : Env}, bindPts ps xs ρ = some ρ' → xs.length = ps.length
  | [], [], _, _, _ => rfl
  | [], _ :: _, _, _, h => by cases h
  | _ :: _, [], _, _, h => by cases h
  | p :: ps, x :: xs, ρ, ρ', h => by
    obtain ⟨ρ1, _, h2⟩ := Option.bind_eq_some_iff.mp h
    exact congrArg (· + 1) (bindPts_len h2)
theorem s_tupT {es : List Expr} {ps : List Pt} {j : Nat} (hc : X.calm = true) (h : PPt X es ps) : PG X (.Tuple es j pos) (gP X.K (.tup ps)) :=
  pg_wk (pg_tup (n := ps.length) hc (s_names h) (assignEach_len h).1 (assignEach_len h).2) fun v σ H Q ⟨c, ρ, w, ρ', o, e, d, b, k⟩ => by
    cases w with
    | ref _ => cases b
    | d x =>
      cases x with
      | tup xs =>
        cases d with
        | tup hb l => exact ⟨_, _, rfl, o.sub.sqt (SqT.of hb), by rw [← l.length, bindPts_len b], c, ρ, xs, ρ', o, e, l, b, k⟩
      | _ => cases b
theorem wipe_get (σ : L2.St) : ∀ (vs : List Nat) (j : Nat), (wipe σ vs)[j]? = if j ∈ vs ∧ j < σ.length then some none else σ[j]?
  | [], j => by simp [wipe]
  | v :: vs, j => by
    have ih := wipe_get σ vs j
    show ((wipe σ vs).set v none)[j]? = _
    by_cases e : v = j
    · subst e
      by_cases hl : v < σ.length
      · rw [List.getElem?_set_self (by rw [wipe_length]; exact hl), if_pos ⟨by simp, hl⟩]
      · rw [List.getElem?_eq_none (by rw [List.length_set, wipe_length]; omega), if_neg (by intro z; exact hl z.2), List.getElem?_eq_none (by omega)]
    · rw [List.getElem?_set_ne e, ih]
      have e' : ¬ j = v := fun z => e z.symm
      simp [e']
theorem wipe_off {σ σ' : L2.St} {is vs : List Nat} (h : Off is (wipe σ vs) σ') (hs : ∀ i ∈ is, i ∈ vs) : wipe σ' vs = wipe σ vs := by
  apply List.ext_getElem?
  intro j
  rw [wipe_get, wipe_get]
  have hl : σ'.length = σ.length := h.1.trans (wipe_length σ vs)
  rw [hl]
  split
  · rfl
  · rename_i hn
    by_cases hj : j ∈ vs
    · have : ¬ j < σ.length := fun z => hn ⟨hj, z⟩
      rw [List.getElem?_eq_none (by omega), List.getElem?_eq_none (by omega)]
    · rw [h.2 j fun z => hj (hs j z), wipe_get, if_neg (by intro z; exact hj z.1)]
abbrev W0 : WX := fun _ _ _ _ => False
/-- a place that is not ours stays so -/
structure Foreign (c : Cfg) (H : Hp) (p : Addr) : Prop where
  b : c.B p = none
  i : p ∉ c.pl
theorem Ext.foreign {c c1 : Cfg} {H H1 : Hp} {p : Addr} {o : HO} (e : Ext c H c1 H1) (f : Foreign c H p) (h : H p = some o) : Foreign c1 H1 p ∧ H1 p = some o := by
  obtain ⟨h1, h2⟩ := e.frame p o h f.b f.i
  refine ⟨⟨h2, ?_⟩, h1⟩
  obtain ⟨m, em, fr⟩ := e.pre
  rw [em]
  intro hm
  rcases List.mem_append.mp hm with z | z
  · exact f.i z
  · rw [fr p z] at h
    cases h
theorem Ok.write {K : KF} {c : Cfg} {H : Hp} {p : Addr} (k : Ok K c H) (f : Foreign c H p) (u : HO) : Ok K c (upd H p u) := by
  have ne : ∀ a, c.B a ≠ none ∨ a ∈ c.pl → a ≠ p := fun a h z => by
    subst z
    rcases h with h | h
    · exact h f.b
    · exact f.i h
  refine ⟨fun a v h => ?_, k.len, k.nd, fun n a cell h1 h2 => ?_, fun a ha => ?_⟩
  · rw [upd_ne (ne a (.inl (by rw [h]; simp)))]
    exact k.sub a v h
  · exact (k.cells n a cell h1 h2).grow (Ex.refl _) ⟨[], by simp⟩ (fun q => q) (fun o _ q => by rw [upd_ne (ne a (.inr (List.mem_of_getElem? h1)))]; exact q)
  · rw [upd_ne (ne a (.inr ha))]
    exact k.own a ha
/-- a place that was not there at the start may be written -/
theorem Ext.write {c c1 : Cfg} {H H1 : Hp} {p : Addr} (e : Ext c H c1 H1) (h : H p = none) (u : HO) : Ext c H c1 (upd H1 p u) := by
  refine ⟨e.exB, e.pre, fun a ha => ?_, fun a o h1 h2 h3 => ?_⟩
  · by_cases z : a = p
    · subst z
      rw [upd_same]
      simp
    · rw [upd_ne z]
      exact e.there a ha
  · rw [upd_ne (ne_of_none h1 h)]
    exact e.frame a o h1 h2 h3
/-- at the end the new place is ours: for good, or as a cell -/
theorem adopt_data {K : KF} {c c1 : Cfg} {H H1 : Hp} {p : Addr} {u : HO} (o : Ok K c1 H1) (e : Ext c H c1 H1) (h : H p = none) (f : Foreign c1 H1 p) (hp : H1 p = some u) :
    Ok K ⟨upd c1.B p u, c1.pl, c1.st⟩ H1 ∧ Ext c H ⟨upd c1.B p u, c1.pl, c1.st⟩ H1 ∧ Ex c1.B (upd c1.B p u) := by
  have eB : Ex c1.B (upd c1.B p u) := Ex.new f.b
  refine ⟨⟨fun a w h => ?_, o.len, o.nd, fun n a cell h1 h2 => ?_, o.own⟩, ⟨e.exB.trans eB, e.pre, e.there, fun a w h1 h2 h3 => ?_⟩, eB⟩
  · have h : upd c1.B p u a = some w := h
    by_cases z : a = p
    · subst z
      rw [upd_same] at h
      cases h
      exact hp
    · rw [upd_ne z] at h
      exact o.sub a w h
  · have ne : a ≠ p := fun z => f.i (z ▸ List.mem_of_getElem? h1)
    exact (o.cells n a cell h1 h2).grow (by exact eB) (by exact ⟨[], by simp⟩) (fun q => by show upd c1.B p _ a = none; rw [upd_ne ne]; exact q) (fun w _ q => q)
  · obtain ⟨r1, r2⟩ := e.frame a w h1 h2 h3
    exact ⟨r1, by show upd c1.B p _ a = none; rw [upd_ne (ne_of_none h1 h)]; exact r2⟩
theorem adopt_cell {K : KF} {c c1 : Cfg} {H H1 : Hp} {p : Addr} {u : HO} {cell : Cell} (o : Ok K c1 H1) (e : Ext c H c1 H1) (h : H p = none) (f : Foreign c1 H1 p) (hp : H1 p = some u) (hc : CellHo K c1 cell u) :
    Ok K ⟨c1.B, c1.pl ++ [p], c1.st ++ [cell]⟩ H1 ∧ Ext c H ⟨c1.B, c1.pl ++ [p], c1.st ++ [cell]⟩ H1 := by
  constructor
  · refine ⟨o.sub, by simp [o.len], ?_, fun n a cel h1 h2 => ?_, fun a ha => ?_⟩
    · show (c1.pl ++ [p]).Nodup
      rw [List.nodup_append]
      refine ⟨o.nd, by simp, fun a ha b hb z => ?_⟩
      have : b = p := by simpa using hb
      subst this
      exact f.i (z ▸ ha)
    · have h1 : (c1.pl ++ [p])[n]? = some a := h1
      have h2 : (c1.st ++ [cell])[n]? = some cel := h2
      by_cases hn : n < c1.pl.length
      · rw [List.getElem?_append_left hn] at h1
        rw [List.getElem?_append_left (o.len ▸ hn)] at h2
        exact (o.cells n a cel h1 h2).grow (by exact Ex.refl _) (by exact ⟨[p], rfl⟩) (fun q => q) (fun w _ q => q)
      · have len := o.len
        rw [List.getElem?_append_right (by omega)] at h1 h2
        have e1 : n - c1.pl.length = 0 := by
          have := (List.getElem?_eq_some_iff.mp h1).1
          simpa using this
        have e2 : n - c1.st.length = 0 := by omega
        rw [e1] at h1
        rw [e2] at h2
        have h1 : p = a := by simpa using h1
        have h2 : cell = cel := by simpa using h2
        subst h1
        subst h2
        exact CellOk.of f.b hp (CellHo.grow (by exact Ex.refl _) (by exact ⟨[p], rfl⟩) hc)
    · rcases List.mem_append.mp ha with z | z
      · exact o.own a z
      · have : a = p := by simpa using z
        subst this
        rw [hp]
        simp
  · obtain ⟨mm, em, fm⟩ := e.pre
    refine ⟨e.exB, ⟨mm ++ [p], by show c1.pl ++ [p] = _; rw [em, List.append_assoc], fun a ha => ?_⟩, e.there, e.frame⟩
    rcases List.mem_append.mp ha with z | z
    · exact fm a z
    · have : a = p := by simpa using z
      rw [this]
      exact h
theorem fin_list {K : KF} {mg : Str → Option Value} {m : Bool} {c c1 : Cfg} {H H1 : Hp} {p : Addr} {xs : List D} {vs : List V} {Q : VK} {E : EK} (o : Ok K c1 H1) (e : Ext c H c1 H1) (h : H p = none) (f : Foreign c1 H1 p) (hp : H1 p = some (.lst vs)) (l : DenL K c1.B xs vs)
    (q : Post K mg c H (alloc m (.list xs) c1.st) (RW K) Q E) : Q (.ref p) H1 := by
  cases m with
  | false =>
    obtain ⟨o2, e2, eB⟩ := adopt_data o e h f hp
    exact q ⟨upd c1.B p (.lst vs), c1.pl, c1.st⟩ H1 (.ref p) rfl e2 o2 (.list upd_same (l.mono eB))
  | true =>
    obtain ⟨o2, e2⟩ := adopt_cell (cell := .list (xs.map .d)) o e h f hp ⟨vs, rfl, wdenl_d l⟩
    exact q _ H1 (.ref p) rfl e2 o2 (cell_at o)
theorem fin_listW {K : KF} {mg : Str → Option Value} {c c1 : Cfg} {H H1 : Hp} {p : Addr} {ws : List W} {vs : List V} {Q : VK} {E : EK} (o : Ok K c1 H1) (e : Ext c H c1 H1) (h : H p = none) (f : Foreign c1 H1 p) (hp : H1 p = some (.lst vs)) (l : WDenL K c1 ws vs)
    (q : Post K mg c H (allocL ws c1.st) (RW K) Q E) : Q (.ref p) H1 := by
  obtain ⟨o2, e2⟩ := adopt_cell (cell := .list ws) o e h f hp ⟨vs, rfl, l⟩
  exact q _ H1 (.ref p) rfl e2 o2 (cell_at o)
theorem s_tests {X' : Cx} : ∀ {ifs : List Expr} {cs : List Sm}, (ifs = [] ∧ cs = []) ∨ (∃ f m, ifs = [f] ∧ cs = [m] ∧ PT X' f (bG X' W0 m.t)) → PTs X' ifs (bG X' W0 (smT cs)) := by
  intro ifs cs h
  rcases h with ⟨rfl, rfl⟩ | ⟨f, m, rfl, rfl, h⟩
  · exact ⟨fun pins s σ H Q I ⟨c, ρ, o, e, p⟩ => pts_nil.run pins s σ H Q I (p.now (b := true) o rfl)⟩
  · refine ⟨fun pins s σ H Q I ⟨c, ρ, o, e, p⟩ => (pts_one h).run pins s σ H Q I ?_⟩
    refine (tG.bind o e rfl p).imp fun b H1 ⟨c1, w, e1, o1, er1, d1, p1⟩ => ?_
    have d1 : w = b := d1
    subst d1
    cases w with
    | true => exact p1.now (b := true) o1 rfl
    | false => exact p1.now (b := false) o1 rfl
theorem s_lc {Wx : WX} {elt tg it : Expr} {ifs : List Expr} {scope : Scope} {own : List (Str × Nat)} {p : Pt} {cs : List Sm} {me : Sm} {mi : Env → M (List D)} {m : Bool} (hc : X.calm = true) (hN : X.N.Nodup) (hi : PI X tg it (iG X Wx mi)) (ok : BlkOk X.N X.env.scope scope own)
    (hs : ∀ i ∈ p.slots, i ∈ own.map (·.2)) (hf : ∀ x, foldedSetIterable it X.env x = pure x)
    (hg : ∀ (s : Shared) (H : Hp) (C : Addr) (cl : List (Str × Addr)) (fp : List Addr), PG (X.blk s H scope (compEnvC scope cl C X.env) fp) tg (gP X.K p))
    (ht : ∀ (s : Shared) (H : Hp) (C : Addr) (cl : List (Str × Addr)) (fp : List Addr), PTs (X.blk s H scope (compEnvC scope cl C X.env) fp) ifs (tG X.K X.mg W0 (smT cs) RB))
    (he : ∀ (s : Shared) (H : Hp) (C : Addr) (cl : List (Str × Addr)) (fp : List Addr), PE (X.blk s H scope (compEnvC scope cl C X.env) fp) elt (tG X.K X.mg W0 me.v (RW X.K))) :
    PE X (.ListComp elt [⟨tg, it, ifs, 0⟩] scope pos) (tLc (iG X Wx mi) (gP X.K p) (tG X.K X.mg W0 (smT cs) RB) (tG X.K X.mg W0 me.v (RW X.K)) (own.map (·.2))) := pe_lc hc hN hi ok hg ht he hf
/-- a row of outcomes and values -/
inductive F2 {β : Type} (R : β → V → Prop) : List β → List V → Prop
  | nil : F2 R [] []
  | cons {x : β} {xs : List β} {v : V} {vs : List V} : R x v → F2 R xs vs → F2 R (x :: xs) (v :: vs)
theorem F2.imp {β : Type} {R R' : β → V → Prop} (h : ∀ x v, R x v → R' x v) : ∀ {xs : List β} {vs : List V}, F2 R xs vs → F2 R' xs vs
  | _, _, .nil => .nil
  | _, _, .cons a l => .cons (h _ _ a) (F2.imp h l)
theorem F2.length {β : Type} {R : β → V → Prop} : ∀ {xs : List β} {vs : List V}, F2 R xs vs → xs.length = vs.length
  | _, _, .nil => rfl
  | _, _, .cons _ l => congrArg (· + 1) (F2.length l)
theorem F2.append {β : Type} {R : β → V → Prop} : ∀ {xs ys : List β} {vs ws : List V}, F2 R xs vs → F2 R ys ws → F2 R (xs ++ ys) (vs ++ ws)
  | _, _, _, _, .nil, r => r
  | _, _, _, _, .cons h l, r => .cons h (F2.append l r)
theorem F2.den {K : KF} {B : Hp} : ∀ {xs : List D} {vs : List V}, F2 (Den K B) xs vs → DenL K B xs vs
  | _, _, .nil => .nil
  | _, _, .cons h l => .cons h (F2.den l)
theorem F2.wden {K : KF} {c : Cfg} : ∀ {xs : List W} {vs : List V}, F2 (WDen K c) xs vs → WDenL K c xs vs
  | _, _, .nil => .nil
  | _, _, .cons h l => .cons h (F2.wden l)
/-- how an element is kept: frozen or as it is -/
structure Keep (K : KF) {β : Type} (fin : W → M β) (RE : Cfg → β → V → Prop) : Prop where
  mono : ∀ {c c1 : Cfg} {H H1 : Hp} {x : β} {v : V}, Ext c H c1 H1 → RE c x v → RE c1 x v
  step : ∀ {c : Cfg} {H : Hp} {w : W} {v : V}, Ok K c H → WDen K c w v → fin w c.st = .bad ∨ ∃ c1 b, fin w c.st = .ok b c1.st ∧ Ext c H c1 H ∧ Ok K c1 H ∧ RE c1 b v
theorem keep_d {K : KF} : Keep K freeze (fun c x v => Den K c.B x v) := ⟨fun e h => Den.mono e.exB h, fun o d => by
  rcases freezeN_ok 6 o d with h | ⟨c1, x, h1, h2, h3, h4⟩
  · exact .inl h
  · exact .inr ⟨c1, x, h1, h2, h3, h4⟩⟩
theorem keep_w {K : KF} : Keep K M.pure (fun c x v => WDen K c x v) := ⟨fun e h => WDen.mono e h, fun {c H w v} o d => .inr ⟨c, w, rfl, Ext.refl c H, o, d⟩⟩
def lcBodyG {β : Type} (fin : W → M β) (tg : Pt) (cs : List Sm) (elt : Sm) (ρ : Env) (x : D) : M (Option β) :=
  M.bind (lift (bindPt tg (.d x) ρ)) fun ρ1 => M.bind (smT cs ρ1) fun t =>
    if t then M.bind (elt.v ρ1) fun w => M.bind (fin w) fun y => M.pure (some y) else M.pure none
theorem lcBody_g (tg : Pt) (cs : List Sm) (elt : Sm) (ρ : Env) : lcBody tg cs elt ρ = lcBodyG freeze tg cs elt ρ := rfl
theorem lcBodyW_g (tg : Pt) (cs : List Sm) (elt : Sm) (ρ : Env) : lcBodyW tg cs elt ρ = lcBodyG M.pure tg cs elt ρ := rfl
theorem lc_readG {Wx : WX} {β γ : Type} {own : List Nat} {p : Pt} {cs : List Sm} {me : Sm} {mi : Env → M (List D)} {fin : W → M β} {RE : Cfg → β → V → Prop} {k : List β → M W} (kp : Keep X.K fin RE) (hs : ∀ i ∈ p.slots, i ∈ own)
    (hend : ∀ {c c1 : Cfg} {H H1 : Hp} {pl : Addr} {ys : List β} {vs : List V} {Q : VK} {E : EK}, Ok X.K c1 H1 → Ext c H c1 H1 → H pl = none → Foreign c1 H1 pl → H1 pl = some (.lst vs) → F2 (RE c1) ys vs → Post X.K X.mg c H (k ys c1.st) (RW X.K) Q E → Q (.ref pl) H1) :
    ∀ σ H Q, vG X Wx (fun ρ => M.bind (mi ρ) fun xs => M.bind (lcLoop (lcBodyG fin p cs me (wipeE ρ own)) xs []) k) σ H Q →
    tLc (iG X Wx mi) (gP X.K p) (tG X.K X.mg W0 (smT cs) RB) (tG X.K X.mg W0 me.v (RW X.K)) own σ H Q := fun σ H Q ⟨c, ρ, o, e, pst⟩ => by
  refine (tG.bind o e rfl pst).imp fun J H1 ⟨c1, xs, e1, o1, er1, wk, p1⟩ => ?_
  intro Dl hD
  have f1 : Foreign c1 H1 Dl := by
    refine ⟨?_, fun z => o1.own _ z hD⟩
    cases z : c1.B Dl with
    | none => rfl
    | some u =>
      rw [o1.sub _ _ z] at hD
      cases hD
  refine ⟨fun i j H' => i ≤ xs.length ∧ j = xs.length - i ∧ ∃ c' acc vs', Ext c1 H1 c' H' ∧ Ok X.K c' H' ∧ Foreign c' H' Dl ∧ H' Dl = some (.lst vs') ∧ F2 (RE c') acc.reverse vs' ∧
    Post X.K X.mg c1 H1 ((lcLoop (lcBodyG fin p cs me (wipeE ρ own)) (xs.drop i) acc c'.st).andThen k) (RW X.K) Q (fun cls da H' => Wx cls da σ H'),
    ⟨xs.length, Nat.zero_le _, rfl, c1, [], [], (Ext.refl c1 H1).write hD _, o1.write f1 _, ⟨f1.b, f1.i⟩, upd_same, .nil, p1⟩, ?_⟩
  rintro i j H' ⟨hi, rfl, c', acc, vs', e', o', f', h', l', q'⟩
  have wi := wk i c' H' e' o'
  by_cases hlt : i < xs.length
  · have hx : xs[i]? = some xs[i] := List.getElem?_eq_getElem hlt
    obtain ⟨go, yl⟩ := wi.2 _ hx
    refine .inr ⟨go, fun H2 => (i + 1) ≤ xs.length ∧ ∃ c' acc vs', Ext c1 H1 c' H2 ∧ Ok X.K c' H2 ∧ Foreign c' H2 Dl ∧ H2 Dl = some (.lst vs') ∧ F2 (RE c') acc.reverse vs' ∧
      Post X.K X.mg c1 H1 ((lcLoop (lcBodyG fin p cs me (wipeE ρ own)) (xs.drop (i + 1)) acc c'.st).andThen k) (RW X.K) Q (fun cls da H' => Wx cls da σ H'),
      fun H2 ⟨h1, h2⟩ => ⟨xs.length - (i + 1), by omega, h1, rfl, h2⟩, fun v H2 hy => ?_⟩
    obtain ⟨c2, s2, e2, o2, d2⟩ := yl v H2 hy
    have eD : xs.drop i = xs[i] :: xs.drop (i + 1) := List.drop_eq_getElem_cons hlt
    rw [eD] at q'
    generalize xs[i] = x at q' d2
    obtain ⟨f2, h2⟩ := e2.foreign f' h'
    have e12 := Ext.trans o' e' e2
    have l2 : F2 (RE c2) acc.reverse vs' := l'.imp fun _ _ z => kp.mono e2 z
    rw [← s2] at q'
    have er2 : ERel X.K c2 (wipeE ρ own) (wipe σ own) := (er1.mono e12).wipe own
    have q2 : Post X.K X.mg c1 H1 ((match (lift (bindPt p (.d x) (wipeE ρ own)) c2.st).andThen (fun ρ1 => M.bind (smT cs ρ1) fun t => if t then M.bind (me.v ρ1) fun w => M.bind (fin w) fun y => M.pure (some y) else M.pure none) with
      | .ok none s => lcLoop (lcBodyG fin p cs me (wipeE ρ own)) (xs.drop (i + 1)) acc s
      | .ok (some y) s => if decide (acc.length < 16777216) then lcLoop (lcBodyG fin p cs me (wipeE ρ own)) (xs.drop (i + 1)) (y :: acc) s else .bad
      | _ => .bad).andThen k) (RW X.K) Q (fun cls da H' => Wx cls da σ H') := q'
    cases eb : bindPt p (.d x) (wipeE ρ own) with
    | none =>
      rw [eb] at q2
      exact q2.elim
    | some ρ2 =>
      rw [eb] at q2
      refine ⟨c2, wipeE ρ own, .d x, ρ2, o2, er2, d2, eb, fun σ2 er3 off => ⟨wipe_off off hs, c2, ρ2, o2, er3, ?_⟩⟩
      have q3 : Post X.K X.mg c1 H1 ((match (smT cs ρ2 c2.st).andThen (fun t => if t then M.bind (me.v ρ2) fun w => M.bind (fin w) fun y => M.pure (some y) else M.pure none) with
        | .ok none s => lcLoop (lcBodyG fin p cs me (wipeE ρ own)) (xs.drop (i + 1)) acc s
        | .ok (some y) s => if decide (acc.length < 16777216) then lcLoop (lcBodyG fin p cs me (wipeE ρ own)) (xs.drop (i + 1)) (y :: acc) s else .bad
        | _ => .bad).andThen k) (RW X.K) Q (fun cls da H' => Wx cls da σ H') := q2
      cases rt : smT cs ρ2 c2.st with
      | bad =>
        rw [rt] at q3
        exact q3.elim
      | exc _ _ _ =>
        rw [rt] at q3
        exact q3.elim
      | ok t st =>
        rw [rt] at q3
        intro c3 H3 b h31 h32 h33 h34
        have h34 : t = b := h34
        subst h34
        subst h31
        obtain ⟨f3, h3⟩ := h32.foreign f2 h2
        have e13 := Ext.trans o2 e12 h32
        cases t with
        | false =>
          exact ⟨by omega, c3, acc, vs', e13, h33, f3, h3, l2.imp fun _ _ z => kp.mono h32 z, q3⟩
        | true =>
          show tG X.K X.mg W0 me.v (RW X.K) σ2 H3 _
          refine ⟨c3, ρ2, h33, er3.mono h32, ?_⟩
          have q4 : Post X.K X.mg c1 H1 ((match (me.v ρ2 c3.st).andThen (fun w => M.bind (fin w) fun y => M.pure (some y)) with
            | .ok none s => lcLoop (lcBodyG fin p cs me (wipeE ρ own)) (xs.drop (i + 1)) acc s
            | .ok (some y) s => if decide (acc.length < 16777216) then lcLoop (lcBodyG fin p cs me (wipeE ρ own)) (xs.drop (i + 1)) (y :: acc) s else .bad
            | _ => .bad).andThen k) (RW X.K) Q (fun cls da H' => Wx cls da σ H') := q3
          cases rv : me.v ρ2 c3.st with
          | bad =>
            rw [rv] at q4
            exact q4.elim
          | exc _ _ _ =>
            rw [rv] at q4
            exact q4.elim
          | ok w st4 =>
            rw [rv] at q4
            intro c4 H4 y h41 h42 h43 h44
            subst h41
            obtain ⟨f4, h4⟩ := h42.foreign f3 h3
            have e14 := Ext.trans h33 e13 h42
            have q5 : Post X.K X.mg c1 H1 ((match (fin w c4.st).andThen (fun y => M.pure (some y)) with
              | .ok none s => lcLoop (lcBodyG fin p cs me (wipeE ρ own)) (xs.drop (i + 1)) acc s
              | .ok (some y) s => if decide (acc.length < 16777216) then lcLoop (lcBodyG fin p cs me (wipeE ρ own)) (xs.drop (i + 1)) (y :: acc) s else .bad
              | _ => .bad).andThen k) (RW X.K) Q (fun cls da H' => Wx cls da σ H') := q4
            rcases kp.step h43 h44 with rf | ⟨c5, z, rf, e5, o5, d5⟩
            · rw [rf] at q5
              exact q5.elim
            · rw [rf] at q5
              obtain ⟨f5, h5⟩ := e5.foreign f4 h4
              have e15 := Ext.trans h43 e14 e5
              have l5 : F2 (RE c5) acc.reverse vs' := l2.imp fun _ _ z => kp.mono e5 (kp.mono h42 (kp.mono h32 z))
              have q6 : Post X.K X.mg c1 H1 ((if decide (acc.length < 16777216) then lcLoop (lcBodyG fin p cs me (wipeE ρ own)) (xs.drop (i + 1)) (z :: acc) c5.st else .bad).andThen k) (RW X.K) Q (fun cls da H' => Wx cls da σ H') := q5
              by_cases hz : acc.length < 16777216
              · rw [decide_eq_true hz, if_pos rfl] at q6
                have lv : vs'.length = acc.length := by rw [← l5.length, List.length_reverse]
                refine ⟨vs', h4, by rw [lv, sizeLine_eq]; exact hz, by omega, c5, z :: acc, vs' ++ [y], e15.write hD _, o5.write f5 _, ⟨f5.b, f5.i⟩, upd_same, ?_, q6⟩
                rw [List.reverse_cons]
                exact l5.append (.cons d5 .nil)
              · rw [decide_eq_false hz] at q6
                exact q6.elim
  · have hi' : i = xs.length := by omega
    refine .inl ⟨wi.1 hi', ?_⟩
    rw [hi', List.drop_length] at q'
    exact hend o' e' hD f' h' l' q'
theorem lc_read {Wx : WX} {own : List Nat} {p : Pt} {cs : List Sm} {me : Sm} {mi : Env → M (List D)} {m : Bool} (hs : ∀ i ∈ p.slots, i ∈ own) : ∀ σ H Q, vG X Wx (fun ρ => M.bind (mi ρ) fun xs => M.bind (lcLoop (lcBody p cs me (wipeE ρ own)) xs []) fun ys => alloc m (.list ys)) σ H Q →
    tLc (iG X Wx mi) (gP X.K p) (tG X.K X.mg W0 (smT cs) RB) (tG X.K X.mg W0 me.v (RW X.K)) own σ H Q :=
  lc_readG (γ := Unit) keep_d hs fun o e h f hp l q => fin_list o e h f hp l.den q
theorem lc_readW {Wx : WX} {own : List Nat} {p : Pt} {cs : List Sm} {me : Sm} {mi : Env → M (List D)} (hs : ∀ i ∈ p.slots, i ∈ own) : ∀ σ H Q, vG X Wx (fun ρ => M.bind (mi ρ) fun xs => M.bind (lcLoop (lcBodyW p cs me (wipeE ρ own)) xs []) fun ws => allocL ws) σ H Q →
    tLc (iG X Wx mi) (gP X.K p) (tG X.K X.mg W0 (smT cs) RB) (tG X.K X.mg W0 me.v (RW X.K)) own σ H Q :=
  lc_readG (γ := Unit) keep_w hs fun o e h f hp l q => fin_listW o e h f hp l.wden q
end
end Cr

namespace Cr
open PySem PySem.Spec PyProof.Rows L2
section
variable {X : Cx}
/-- a number is put into the set -/
theorem put_int {pins : List (Addr × Obj)} {σ : L2.St} {G : Hp} {sh : Shared} {E : Value → Shared → Prop} {p : Addr} {S : Int → Bool} {n : Nat} {y : Int} {tk : Tok} {Q : Value → Shared → Prop} (J : Inv X pins σ G sh) (hp : G p = some (SetO X.w p S n)) (room : n + 1 < scanBound)
    (go : ∀ sh', Inv X pins σ (upd G p (SetO X.w p (fun j => S j || decide (j = y)) (if S y = true then n else n + 1))) sh' → Q .none sh') : wpAny (model X.prog X.w) X.A (call (.builtin "set.add") [.ref p, .int y tk]) Q E sh :=
  setR_add (setO_get J hp) room fun g sb r => go _ (J.write (e := p) (t' := sh.toks + 1) (by rw [hp]; trivial) (.inl rfl) (fun b u hb hu => (sb.2 b hb).trans hu) ⟨_, r.choose_spec.choose_spec.choose_spec.choose_spec.1⟩ (setO_new r))
/-- one turn's end, and the turns -/
def ScStep (w : World) (J : It) (g : TG) (tt : TT) (te : TE) (vs : List Nat) (σ : L2.St) (p : Addr) (Q : VK) (T : Nat → Nat → Hp → Prop) (i m : Nat) (G : Hp) : Prop :=
  (J.stop i G ∧ Q (.ref p) G) ∨ (J.go i G ∧ ∃ Nx : Hp → Prop, (∀ G', Nx G' → ∃ m', m' < m ∧ T (i + 1) m' G') ∧ ∀ x G', J.yld i G x G' → g x (wipe σ vs) G' fun σ2 G2 => wipe σ2 vs = wipe σ vs ∧ tt σ2 G2 fun b G3 =>
    if b = true then te σ2 G3 fun y G4 => ∃ (k : Int) (S : Int → Bool) (n : Nat), y = .int k ∧ G4 p = some (SetO w p S n) ∧ n + 1 < scanBound ∧ Nx (upd G4 p (SetO w p (fun j => S j || decide (j = k)) (if S k = true then n else n + 1))) else Nx G3)
/-- {elt for ..}, elt a number -/
def tScI (w : World) (wi : TI) (g : TG) (tt : TT) (te : TE) (vs : List Nat) : TE := fun σ G Q => wi σ G fun J G1 => ∀ p, G1 p = none → ∃ T : Nat → Nat → Hp → Prop, (∃ m, T 0 m (upd G1 p (SetO w p (fun _ => false) 0))) ∧ ∀ i m G2, T i m G2 → ScStep w J g tt te vs σ p Q T i m G2
theorem set_core {pins : List (Addr × Obj)} {sh : Shared} {σ : L2.St} {G : Hp} {Q : VK} {elt tg iter : Expr} {ifs : List Expr} {scope : Scope} {own : List (PySem.Str × Nat)} {pos ps : Pos} {wi : TI} {g : TG} {tt : TT} {te : TE} {use : Option (Value → Sem Unit)} {Qf : Value → Shared → Prop}
    (calm : X.calm = true) (nd : X.N.Nodup) (J : Inv X pins σ G sh) (ri : PI X tg iter wi) (ok : BlkOk X.N X.env.scope scope own)
    (rg : ∀ (s : Shared) (G : Hp) (C : Addr) (cl : List (PySem.Str × Addr)) (fp : List Addr), PG (X.blk s G scope (compEnvC scope cl C X.env) fp) tg g) (rt : ∀ (s : Shared) (G : Hp) (C : Addr) (cl : List (PySem.Str × Addr)) (fp : List Addr), PTs (X.blk s G scope (compEnvC scope cl C X.env) fp) ifs tt)
    (re : ∀ (s : Shared) (G : Hp) (C : Addr) (cl : List (PySem.Str × Addr)) (fp : List Addr), PE (X.blk s G scope (compEnvC scope cl C X.env) fp) elt te) (fold : ∀ x, foldedSetIterable iter X.env x = pure x)
    (h : tScI X.w wi g tt te (own.map (·.2)) σ G Q)
    (last : ∀ p C s' m G', Inv X pins σ G' s' → Q (.ref p) G' → s'.heap.Ns C m → FpOk X pins G' C → compPost (model X.prog X.w) X.A X.xe use Qf (.ref p) C (.ok .next) s') :
    wpAny (model X.prog X.w) X.A (comprehension (.SetComp elt [⟨tg, iter, ifs, 0⟩] scope pos) scope X.env ps (newSet (.type "set")) false (eval iter X.env) use) Qf X.xe sh := by
  have caught : ∀ y ∈ scope.names, y.2 = .free → ∃ c, X.env.cells.lookup y.1 = some c := fun y my ey => (ok.free y my ey).elim (fun k => J.ok.has _ (.inl k)) fun k => J.ok.has _ (.inr k)
  refine wpAny_comprehension_free (use := use) rfl fold (closure_ok caught) ok.kind (fun y my ey => by rw [ok.uniq y my, ey]) (thn (ri.run pins sh σ G _ J h) fun v1 a1 k1 => thn k1 fun v2 a2 k2 => ?_)
  obtain ⟨it, fp, tn, W, G2, rfl, J2, go, at2, fr2, q⟩ := k2
  refine PpSet.newSet_ok (newEnv_comp ?_)
  generalize hp : a2.heap.objs.size = p
  have fresh2 : G2 p = none := J2.hok.fresh (Nat.le_of_eq hp)
  obtain ⟨T, ⟨m0, t0⟩, turn⟩ := q p fresh2
  generalize ha3 : ({ a2 with heap := a2.heap.push { cls := .type "set", dict := none, data := .set #[] 0 (.fresh 0 0 (!X.w.params.followText "set-order")) } } : Shared) = a3
  have J3 : Inv X pins σ (upd G2 p (SetO X.w p (fun _ => false) 0)) a3 := by
    rw [← ha3]
    exact J2.laid (t' := a2.toks) (fun b u e => Heap.get?_push_of_some _ e) (Nat.le_of_eq hp) (by rw [← hp]; exact setO_new (setR_fresh X.w))
  have eh3 : a3.heap = a2.heap.push { cls := .type "set", dict := none, data := .set #[] 0 (.fresh 0 0 (!X.w.params.followText "set-order")) } := by rw [← ha3]
  have below : ∀ b ∈ fp, b < a2.heap.objs.size := fun b mb => (go.obj _ _ at2 b mb).elim fun u z => Heap.lt_size z.1
  generalize hG3 : upd G2 p (SetO X.w p (fun _ => false) 0) = G3 at J3 t0
  have fr3 : ∀ b ∈ fp, FpOk X pins G3 b ∧ b < a3.heap.objs.size := fun b mb => by
    have lt := below b mb
    constructor
    · refine ⟨?_, (fr2 b mb).2⟩
      rw [← hG3, upd_ne (by rw [← hp]; exact Nat.ne_of_lt lt)]
      exact (fr2 b mb).1
    · rw [eh3, Heap.size_push]
      exact Nat.lt_succ_of_lt lt
  have at3 : tn 0 a3.heap := go.keep _ _ _ at2 fun b _ u z => by rw [eh3]; exact Heap.get?_push_of_some _ z
  have J4 := block_start J3 ok nd fr3
  have kg := rg a3 G3 a3.heap.objs.size (cellsFrom (a3.heap.objs.size + 1) scope.names (cloFrom X.env.cells scope.names [])) fp
  have kt := rt a3 G3 a3.heap.objs.size (cellsFrom (a3.heap.objs.size + 1) scope.names (cloFrom X.env.cells scope.names [])) fp
  have ke := re a3 G3 a3.heap.objs.size (cellsFrom (a3.heap.objs.size + 1) scope.names (cloFrom X.env.cells scope.names [])) fp
  show codeAny _ _ (.compStart (.SetComp elt [⟨tg, iter, ifs, 0⟩] scope pos) 0 (.ref it) (.ref p) (compEnvC scope (cellsFrom (a3.heap.objs.size + 1) scope.names (cloFrom X.env.cells scope.names [])) a3.heap.objs.size X.env)) (compPost (model X.prog X.w) X.A X.xe use Qf (.ref p) a3.heap.objs.size) { a3 with heap := pushCells (a3.heap.push { cls := .type "dict", data := .dict #[] }) scope.names }
  generalize hce : compEnvC scope (cellsFrom (a3.heap.objs.size + 1) scope.names (cloFrom X.env.cells scope.names [])) a3.heap.objs.size X.env = ce at J4 kg kt ke ⊢
  have locs : ce.locals = a3.heap.objs.size := by rw [← hce] <;> rfl
  generalize ha4 : ({ a3 with heap := pushCells (a3.heap.push { cls := .type "dict", data := .dict #[] }) scope.names } : Shared) = a4 at J4 ⊢
  have at4 : tn 0 a4.heap := go.keep _ _ _ at3 fun b _ u z => by
    rw [← ha4]
    exact pushCells_keeps _ _ _ _ (Heap.get?_push_of_some _ z)
  have stays : ∀ {σ' : L2.St} {G' : Hp} {a' : Shared}, Inv (X.blk a3 G3 scope ce fp) [] σ' G' a' → (∀ b ∈ fp, G' b = none) → ∀ b ∈ fp, FpOk (X.blk a3 G3 scope ce fp) [] G' b := fun {σ' G' a'} J' none' b mb =>
    ⟨none' b mb, (J'.ok.exf b mb).1, J'.ok.exfs b mb, .inl mb, fun x c z => (J'.ok.exf b mb).2 x c z, fun r mr => absurd (show r ∈ ([] : List (Addr × Obj)) ++ [] from mr) (by simp)⟩
  have loop : codeAny (model X.prog X.w) X.A (.compLoop (.SetComp elt [⟨tg, iter, ifs, 0⟩] scope pos) 0 (.ref it) (.ref p) ce) (compPost (model X.prog X.w) X.A X.xe use Qf (.ref p) a3.heap.objs.size) a4 := by
    refine PpSet.compLoopS_any (fun n a' => ∃ i G', Inv (X.blk a3 G3 scope ce fp) [] (wipe σ (own.map (·.2))) G' a' ∧ tn i a'.heap ∧ (∀ b ∈ fp, G' b = none) ∧ T i n G') ?_ m0 ⟨0, G3, J4, at4, fun b mb => (fr3 b mb).1.1, t0⟩
    intro n a5 ⟨i, G5, J5, at5, none5, t5⟩
    rcases turn i n G5 t5 with ⟨stop, fin⟩ | ⟨more, Nx, hNx, step⟩
    · have ended := go.done (X.blk a3 G3 scope ce fp) rfl rfl rfl calm i [] a5 _ G5 (fun _ _ => False) J5 (stays J5 none5) at5 stop
      refine thnF ended fun r a6 ⟨er, J6⟩ => ?_
      subst er
      have J7 : Inv X pins σ G5 a6 := J3.call' (ch := fp) J6.os J6.base J6.hok J6.bare fun b mb => by
        have z := (fr3 b mb).1.2
        exact ⟨z.2.2.1, z.1, z.2.2.2.1, z.2.2.2.2⟩
      have free5 : G5 a3.heap.objs.size = none := by
        rw [← locs]
        exact J6.free
      obtain ⟨m, ns6, _⟩ := J6.loc
      replace ns6 : a6.heap.Ns ce.locals m := ns6
      rw [locs] at ns6
      exact last p a3.heap.objs.size a6 m G5 J7 fin ns6 (J3.fpOk (Nat.le_refl _) free5)
    · have next := go.item (X.blk a3 G3 scope ce fp) rfl rfl rfl calm i [] a5 _ G5 (fun _ _ => False) J5 (stays J5 none5) at5 more
      refine thnF next fun r a6 ⟨u, er, k6⟩ => ?_
      subst er
      refine thnF k6 fun _ a7 ⟨x, G7, J7, r7, y7, at7, none7⟩ => ?_
      refine thnF (kg.run _ a7 _ G7 x u _ (J7.pinned (stays J7 none7) (go.obj _ _ at7)) r7 (step x G7 y7)) fun _ a8 ⟨σ8, G8, J8, wip, q8⟩ => ?_
      refine thnF (kt.run _ a8 σ8 G8 _ J8 q8) fun b a9 ⟨G9, J9, q9⟩ => ?_
      have turned : ∀ {a' : Shared} {G' : Hp}, Inv (X.blk a3 G3 scope ce fp) ([] ++ pinsAt fp a7.heap) σ8 G' a' → Nx G' → ∃ m, m < n ∧ ∃ i G', Inv (X.blk a3 G3 scope ce fp) [] (wipe σ (own.map (·.2))) G' a' ∧ tn i a'.heap ∧ (∀ b ∈ fp, G' b = none) ∧ T i m G' := fun {a' G'} J' nx => by
        obtain ⟨m', lt', t'⟩ := hNx G' nx
        have pin : ∀ b ∈ fp, ∀ u, a7.heap.get? b = some u → a'.heap.get? b = some u ∧ G' b = none := fun b mb u z => by
          have k := J'.pin (b, u) (List.mem_append_right _ (List.mem_append_right _ (mem_pinsAt mb z)))
          exact ⟨k.1, k.2.1⟩
        have len8 : (wipe σ (own.map (·.2))).length = σ8.length := by rw [← wip, wipe_length]
        refine ⟨m', lt', i + 1, G', (J'.unpinned (pins := [])).weak len8 (fun j v z => ?_), go.keep _ _ _ at7 fun b mb u z => (pin b mb u z).1, fun b mb => ?_, t'⟩
        · rw [← wip] at z
          exact (wipe_some z).1
        · obtain ⟨u, z, _⟩ := go.obj _ _ at7 b mb
          exact (pin b mb u z).2
      cases b with
      | false =>
        simp only [Bool.false_eq_true, if_false] at q9 ⊢
        exact turned J9 q9
      | true =>
        simp only [if_true] at q9 ⊢
        refine thnF (ke.run _ a9 σ8 G9 _ J9 q9) fun z a10 ⟨yv, G10, J10, r10, k, S0, n0, ey, hp10, room10, nx⟩ => ?_
        subst ey
        obtain ⟨tk, rfl⟩ := r10
        exact put_int (X := X.blk a3 G3 scope ce fp) J10 hp10 room10 fun a11 J11 => turned J11 nx
  exact PpSet.codeAny_compStart_set loop (go.self X.A 0 _ _ _ at4 loop)
theorem pe_scI {elt tg iter : Expr} {ifs : List Expr} {scope : Scope} {own : List (PySem.Str × Nat)} {pos : Pos} {wi : TI} {g : TG} {tt : TT} {te : TE} (calm : X.calm = true) (nd : X.N.Nodup) (ri : PI X tg iter wi) (ok : BlkOk X.N X.env.scope scope own)
    (rg : ∀ (s : Shared) (G : Hp) (C : Addr) (cl : List (PySem.Str × Addr)) (fp : List Addr), PG (X.blk s G scope (compEnvC scope cl C X.env) fp) tg g) (rt : ∀ (s : Shared) (G : Hp) (C : Addr) (cl : List (PySem.Str × Addr)) (fp : List Addr), PTs (X.blk s G scope (compEnvC scope cl C X.env) fp) ifs tt)
    (re : ∀ (s : Shared) (G : Hp) (C : Addr) (cl : List (PySem.Str × Addr)) (fp : List Addr), PE (X.blk s G scope (compEnvC scope cl C X.env) fp) elt te) (fold : ∀ x, foldedSetIterable iter X.env x = pure x) :
    PE X (.SetComp elt [⟨tg, iter, ifs, 0⟩] scope pos) (tScI X.w wi g tt te (own.map (·.2))) := by
  constructor
  intro pins sh σ G Q J h
  rw [PpSet.eval_SetComp]
  refine set_core calm nd J ri ok rg rt re fold h fun p C a' m G' J' q ns f => ⟨m, ns, fun g' sb => ?_⟩
  exact ⟨.ref p, G', J'.turned (t' := a'.toks) (fun b u hb e => (sb.2 b hb).trans e) f.1 f.2.1 f.2.2.2.1 f.2.2.2.2.1 f.2.2.2.2.2, rfl, q⟩
/-- len of a set of ints -/
theorem len_setI : CallR X (.builtin "len") (fun vs G Q => ∃ (a : Addr) (S : Int → Bool) (n : Nat), vs = [V.ref a] ∧ G a = some (SetO X.w a S n) ∧ Q (.int (n : Int)) G) := by
  intro pins sh σ G vs us Q J r h
  obtain ⟨a, S, n, rfl, ha, q⟩ := h
  cases r with
  | cons r0 r1 =>
    cases r0
    cases r1
    obtain ⟨o, es, ep, t, ho, hex, hd, _, _, _, hb, hf, hn, _⟩ := setO_get J ha
    exact call_len_set ho hex hd hf (by rw [hn] at hb ⊢; unfold scanBound at hb; omega) ⟨.int n, G, J.tok _, ⟨_, by rw [hn]⟩, q⟩
end
theorem addI_mem (k : Int) : ∀ (ns acc : List Int), k ∈ ns.foldl addI acc ↔ k ∈ acc ∨ k ∈ ns
  | [], acc => by simp
  | n :: ns, acc => by
    rw [List.foldl_cons, addI_mem k ns]
    unfold addI
    split
    · rename_i h
      constructor
      · rintro (z | z)
        · exact .inl z
        · exact .inr (by simp [z])
      · rintro (z | z)
        · exact .inl z
        · rcases List.mem_cons.mp z with e | e
          · subst e; exact .inl h
          · exact .inr e
    · simp [or_assoc]
theorem addI_snoc (ns : List Int) (n : Int) (acc : List Int) : (ns ++ [n]).foldl addI acc = addI (ns.foldl addI acc) n := by
  rw [List.foldl_append]; rfl
/-- the set's table of a row of ints -/
def inB (ns : List Int) (j : Int) : Bool := decide (j ∈ ns)
theorem set_next {w : World} {p : Addr} (ns : List Int) (k : Int) : SetO w p (fun j => inB ns j || decide (j = k)) (if inB ns k = true then (ns.foldl addI []).length else (ns.foldl addI []).length + 1) = SetO w p (inB (ns ++ [k])) ((ns ++ [k]).foldl addI []).length := by
  have e1 : (fun j => inB ns j || decide (j = k)) = inB (ns ++ [k]) := by
    funext j
    unfold inB
    by_cases h1 : j ∈ ns <;> by_cases h2 : j = k <;> simp [h1, h2]
  have e2 : (if inB ns k = true then (ns.foldl addI []).length else (ns.foldl addI []).length + 1) = ((ns ++ [k]).foldl addI []).length := by
    rw [addI_snoc]
    have hm := addI_mem k ns []
    generalize ns.foldl addI [] = l at hm
    unfold addI inB
    by_cases h : k ∈ ns
    · rw [if_pos (by simpa using h), if_pos (hm.mpr (.inr h))]
    · rw [if_neg (by simpa using h), if_neg (fun z => h (by simpa using hm.mp z))]
      simp
  rw [e1, e2]
theorem addI_len (ns : List Int) : (ns.foldl addI []).length ≤ ns.length := by
  have : ∀ (ns acc : List Int), (ns.foldl addI acc).length ≤ acc.length + ns.length := by
    intro ns
    induction ns with
    | nil => intro acc; simp
    | cons n ns ih =>
      intro acc
      rw [List.foldl_cons]
      refine Nat.le_trans (ih _) ?_
      unfold addI
      split <;> simp only [List.length_append, List.length_cons, List.length_nil] <;> omega
  simpa using this ns []
theorem lcLoop_pre {β : Type} {body : D → M (Option β)} : ∀ {xs : List D} {acc : List β} {s s' : Store} {ys : List β}, lcLoop body xs acc s = .ok ys s' → ∃ more, ys = acc.reverse ++ more
  | [], acc, s, s', ys, h => by cases h; exact ⟨[], by simp⟩
  | x :: xs, acc, s, s', ys, h => by
    have h : (match body x s with
      | .ok none s => lcLoop body xs acc s
      | .ok (some y) s => if decide (acc.length < 16777216) then lcLoop body xs (y :: acc) s else .bad
      | _ => .bad) = .ok ys s' := h
    cases r : body x s with
    | bad => rw [r] at h; cases h
    | exc _ _ _ => rw [r] at h; cases h
    | ok o s1 =>
      rw [r] at h
      cases o with
      | none => exact lcLoop_pre h
      | some y =>
        have h : (if decide (acc.length < 16777216) then lcLoop body xs (y :: acc) s1 else .bad) = .ok ys s' := h
        by_cases hz : acc.length < 16777216
        · rw [decide_eq_true hz, if_pos rfl] at h
          obtain ⟨more, e⟩ := lcLoop_pre h
          exact ⟨y :: more, by rw [e]; simp⟩
        · rw [decide_eq_false hz] at h
          cases h
theorem lcLoop_exc {β : Type} {body : D → M (Option β)} : ∀ {xs : List D} {acc : List β} {s : Store} {x : Str} {d : Option (Str × D)} {t : Store}, lcLoop body xs acc s ≠ .exc x d t
  | [], acc, s, x, d, t => fun h => by cases h
  | y :: ys, acc, s, x, d, t => fun h => by
    have h : (match body y s with
      | .ok none s => lcLoop body ys acc s
      | .ok (some z) s => if decide (acc.length < 16777216) then lcLoop body ys (z :: acc) s else .bad
      | _ => .bad) = .exc x d t := h
    cases r : body y s with
    | bad => rw [r] at h; cases h
    | exc _ _ _ => rw [r] at h; cases h
    | ok o s1 =>
      rw [r] at h
      cases o with
      | none => exact lcLoop_exc h
      | some z =>
        have h : (if decide (acc.length < 16777216) then lcLoop body ys (z :: acc) s1 else .bad) = .exc x d t := h
        by_cases hz : acc.length < 16777216
        · rw [decide_eq_true hz, if_pos rfl] at h
          exact lcLoop_exc h
        · rw [decide_eq_false hz] at h
          cases h
theorem intsL_pre : ∀ {xs ys : List D} {ns : List Int}, intsL (xs ++ ys) = some ns → ∃ ms : List Int, xs = ms.map D.int
  | [], _, _, _ => ⟨[], rfl⟩
  | x :: xs, ys, ns, h => by
    cases x with
    | int i =>
      obtain ⟨r, e1, e2⟩ := Option.map_eq_some_iff.mp (show (intsL (xs ++ ys)).map (fun r => i :: r) = some ns from h)
      obtain ⟨ms, e3⟩ := intsL_pre e1
      exact ⟨i :: ms, by rw [e3]; rfl⟩
    | _ => cases h
theorem intsL_ints : ∀ ns : List Int, intsL (ns.map D.int) = some ns
  | [] => rfl
  | n :: ns => by
    show (intsL (ns.map D.int)).map _ = _
    rw [intsL_ints ns]
    rfl
end Cr
namespace Cr
open PySem L2
section
variable {X : Cx} {pos : Pos}
abbrev scEnd (ys : List D) : M W := M.bind (lift (lenSet ys)) fun z => M.pure (.d z)
/-- what is put in so far is ints, and not too many -/
theorem sc_ints {K : KF} {mg : Str → Option Value} {c : Cfg} {H : Hp} {body : D → M (Option D)} {xs : List D} {acc : List D} {st : Store} {Q : VK} {E : EK} (p : Post K mg c H ((lcLoop body xs acc st).andThen scEnd) (RW K) Q E) : ∃ ms : List Int, acc.reverse = ms.map D.int ∧ acc.length < 4096 := by
  cases r : lcLoop body xs acc st with
  | bad => rw [r] at p; exact p.elim
  | exc _ _ _ => exact absurd r lcLoop_exc
  | ok ys s1 =>
    rw [r] at p
    obtain ⟨more, e⟩ := lcLoop_pre r
    have p : Post K mg c H ((lift (lenSet ys) s1).andThen fun z => M.pure (W.d z)) (RW K) Q E := p
    have hl : lenSet ys ≠ none := fun z => by rw [z] at p; exact p.elim
    unfold lenSet at hl
    by_cases h1 : ys.length < 4096
    · rw [decide_eq_true h1, if_pos rfl] at hl
      cases h2 : intsL ys with
      | none => rw [h2] at hl; exact absurd rfl hl
      | some ns =>
        rw [e] at h2
        obtain ⟨ms, e3⟩ := intsL_pre h2
        refine ⟨ms, e3, ?_⟩
        rw [e] at h1
        simp at h1
        omega
    · rw [decide_eq_false h1] at hl
      exact absurd rfl hl
/-- what a turn's outcome leads to -/
def lcK {β : Type} (body : D → M (Option β)) (xs : List D) (acc : List β) (r : Res (Option β)) : Res (List β) := match r with
  | .ok none s => lcLoop body xs acc s
  | .ok (some y) s => if decide (acc.length < 16777216) then lcLoop body xs (y :: acc) s else .bad
  | _ => .bad
theorem lcLoop_cons {β : Type} (body : D → M (Option β)) (x : D) (xs : List D) (acc : List β) (s : Store) : lcLoop body (x :: xs) acc s = lcK body xs acc (body x s) := rfl
theorem lcK_none {β : Type} (body : D → M (Option β)) (xs : List D) (acc : List β) (s : Store) : lcK body xs acc (.ok none s) = lcLoop body xs acc s := rfl
theorem lcK_some {β : Type} (body : D → M (Option β)) (xs : List D) (acc : List β) (y : β) (s : Store) : lcK body xs acc (.ok (some y) s) = if decide (acc.length < 16777216) then lcLoop body xs (y :: acc) s else .bad := rfl
theorem lcK_bad {β : Type} (body : D → M (Option β)) (xs : List D) (acc : List β) : lcK body xs acc .bad = .bad := rfl
theorem lcK_exc {β : Type} (body : D → M (Option β)) (xs : List D) (acc : List β) (x : Str) (d : Option (Str × D)) (s : Store) : lcK body xs acc (.exc x d s) = .bad := rfl
theorem lcBody_at (p : Pt) (cs : List Sm) (me : Sm) (ρ : Env) (x : D) (s : Store) : lcBody p cs me ρ x s = (lift (bindPt p (.d x) ρ) s).andThen (fun ρ1 => M.bind (smT cs ρ1) fun t => if t then M.bind (me.v ρ1) fun w => M.bind (freeze w) fun y => M.pure (some y) else M.pure none) := rfl
theorem sc_read {Wx : WX} {own : List Nat} {p : Pt} {cs : List Sm} {me : Sm} {mi : Env → M (List D)} (hs : ∀ i ∈ p.slots, i ∈ own) : ∀ σ H Q, vG X Wx (fun ρ => M.bind (mi ρ) fun xs => M.bind (lcLoop (lcBody p cs me (wipeE ρ own)) xs []) scEnd) σ H Q →
    tScI X.w (iG X Wx mi) (gP X.K p) (tG X.K X.mg W0 (smT cs) RB) (tG X.K X.mg W0 me.v (RW X.K)) own σ H (fun v G => ∃ (a : Addr) (S : Int → Bool) (n : Nat), [v] = [V.ref a] ∧ G a = some (SetO X.w a S n) ∧ Q (.int (n : Int)) G) := fun σ H Q ⟨c, ρ, o, e, pst⟩ => by
  refine (tG.bind o e rfl pst).imp fun J H1 ⟨c1, xs, e1, o1, er1, wk, p1⟩ => ?_
  intro Dl hD
  have f1 : Foreign c1 H1 Dl := by
    refine ⟨?_, fun z => o1.own _ z hD⟩
    cases z : c1.B Dl with
    | none => rfl
    | some u =>
      rw [o1.sub _ _ z] at hD
      cases hD
  have s0 : SetO X.w Dl (fun _ => false) 0 = SetO X.w Dl (inB []) (([] : List Int).foldl addI []).length := by
    have : (fun _ : Int => false) = inB [] := by funext j; simp [inB]
    rw [this]
    rfl
  refine ⟨fun i j H' => i ≤ xs.length ∧ j = xs.length - i ∧ ∃ c' acc ns, Ext c1 H1 c' H' ∧ Ok X.K c' H' ∧ Foreign c' H' Dl ∧ H' Dl = some (SetO X.w Dl (inB ns) (ns.foldl addI []).length) ∧ acc.reverse = ns.map D.int ∧
    Post X.K X.mg c1 H1 ((lcLoop (lcBody p cs me (wipeE ρ own)) (xs.drop i) acc c'.st).andThen scEnd) (RW X.K) Q (fun cls da H' => Wx cls da σ H'),
    ⟨xs.length, Nat.zero_le _, rfl, c1, [], [], (Ext.refl c1 H1).write hD _, o1.write f1 _, ⟨f1.b, f1.i⟩, by rw [upd_same, s0], rfl, p1⟩, ?_⟩
  rintro i j H' ⟨hi, rfl, c', acc, ns, e', o', f', h', l', q'⟩
  have wi := wk i c' H' e' o'
  by_cases hlt : i < xs.length
  · have hx : xs[i]? = some xs[i] := List.getElem?_eq_getElem hlt
    obtain ⟨go, yl⟩ := wi.2 _ hx
    refine .inr ⟨go, fun H2 => (i + 1) ≤ xs.length ∧ ∃ c' acc ns, Ext c1 H1 c' H2 ∧ Ok X.K c' H2 ∧ Foreign c' H2 Dl ∧ H2 Dl = some (SetO X.w Dl (inB ns) (ns.foldl addI []).length) ∧ acc.reverse = ns.map D.int ∧
      Post X.K X.mg c1 H1 ((lcLoop (lcBody p cs me (wipeE ρ own)) (xs.drop (i + 1)) acc c'.st).andThen scEnd) (RW X.K) Q (fun cls da H' => Wx cls da σ H'),
      fun H2 ⟨h1, h2⟩ => ⟨xs.length - (i + 1), by omega, h1, rfl, h2⟩, fun v H2 hy => ?_⟩
    obtain ⟨c2, s2, e2, o2, d2⟩ := yl v H2 hy
    have eD : xs.drop i = xs[i] :: xs.drop (i + 1) := List.drop_eq_getElem_cons hlt
    rw [eD] at q'
    generalize xs[i] = x at q' d2
    obtain ⟨f2, h2⟩ := e2.foreign f' h'
    have e12 := Ext.trans o' e' e2
    rw [← s2] at q'
    have er2 : ERel X.K c2 (wipeE ρ own) (wipe σ own) := (er1.mono e12).wipe _
    rw [lcLoop_cons, lcBody_at] at q'
    cases eb : bindPt p (.d x) (wipeE ρ own) with
    | none =>
      rw [eb] at q'
      exact q'.elim
    | some ρ2 =>
      rw [eb] at q'
      refine ⟨c2, wipeE ρ own, .d x, ρ2, o2, er2, d2, eb, fun σ2 er3 off => ⟨wipe_off off hs, c2, ρ2, o2, er3, ?_⟩⟩
      have q3 : Post X.K X.mg c1 H1 ((lcK (lcBody p cs me (wipeE ρ own)) (xs.drop (i + 1)) acc ((smT cs ρ2 c2.st).andThen (fun t => if t then M.bind (me.v ρ2) fun w => M.bind (freeze w) fun y => M.pure (some y) else M.pure none))).andThen scEnd) (RW X.K) Q (fun cls da H' => Wx cls da σ H') := q'
      cases rt : smT cs ρ2 c2.st with
      | bad =>
        rw [rt] at q3
        exact q3.elim
      | exc _ _ _ =>
        rw [rt] at q3
        exact q3.elim
      | ok t st =>
        rw [rt] at q3
        intro c3 H3 b h31 h32 h33 h34
        have h34 : t = b := h34
        subst h34
        subst h31
        obtain ⟨f3, h3⟩ := h32.foreign f2 h2
        have e13 := Ext.trans o2 e12 h32
        cases t with
        | false => exact ⟨by omega, c3, acc, ns, e13, h33, f3, h3, l', q3⟩
        | true =>
          show tG X.K X.mg W0 me.v (RW X.K) σ2 H3 _
          refine ⟨c3, ρ2, h33, er3.mono h32, ?_⟩
          have q4 : Post X.K X.mg c1 H1 ((lcK (lcBody p cs me (wipeE ρ own)) (xs.drop (i + 1)) acc ((me.v ρ2 c3.st).andThen (fun w => M.bind (freeze w) fun y => M.pure (some y)))).andThen scEnd) (RW X.K) Q (fun cls da H' => Wx cls da σ H') := q3
          cases rv : me.v ρ2 c3.st with
          | bad =>
            rw [rv] at q4
            exact q4.elim
          | exc _ _ _ =>
            rw [rv] at q4
            exact q4.elim
          | ok w st4 =>
            rw [rv] at q4
            intro c4 H4 y h41 h42 h43 h44
            subst h41
            obtain ⟨f4, h4⟩ := h42.foreign f3 h3
            have e14 := Ext.trans h33 e13 h42
            have q5 : Post X.K X.mg c1 H1 ((lcK (lcBody p cs me (wipeE ρ own)) (xs.drop (i + 1)) acc ((freeze w c4.st).andThen (fun y => M.pure (some y)))).andThen scEnd) (RW X.K) Q (fun cls da H' => Wx cls da σ H') := q4
            rcases freezeN_ok 6 h43 h44 with rf | ⟨c5, z, rf, e5, o5, d5⟩
            · have rf : freeze w c4.st = .bad := rf
              rw [rf] at q5
              exact q5.elim
            · have rf : freeze w c4.st = .ok z c5.st := rf
              rw [rf] at q5
              obtain ⟨f5, h5⟩ := e5.foreign f4 h4
              have e15 := Ext.trans h43 e14 e5
              have q6 : Post X.K X.mg c1 H1 ((if decide (acc.length < 16777216) then lcLoop (lcBody p cs me (wipeE ρ own)) (xs.drop (i + 1)) (z :: acc) c5.st else .bad).andThen scEnd) (RW X.K) Q (fun cls da H' => Wx cls da σ H') := q5
              by_cases hz : acc.length < 16777216
              · rw [decide_eq_true hz, if_pos rfl] at q6
                obtain ⟨ms, em, hl⟩ := sc_ints q6
                rw [List.reverse_cons, l'] at em
                obtain ⟨k, ez⟩ : ∃ k, z = D.int k := by
                  have hm : z ∈ ms.map D.int := by rw [← em]; simp
                  obtain ⟨k, _, ek⟩ := List.mem_map.mp hm
                  exact ⟨k, ek.symm⟩
                subst ez
                cases d5
                have hl2 : ns.length = acc.length := by
                  have := congrArg List.length l'
                  simpa using this.symm
                have room : (ns.foldl addI []).length + 1 < scanBound := by
                  have := addI_len ns
                  simp at hl
                  unfold scanBound
                  omega
                refine ⟨k, inB ns, (ns.foldl addI []).length, rfl, h4, room, by omega, c5, .int k :: acc, ns ++ [k], e15.write hD _, o5.write f5 _, ⟨f5.b, f5.i⟩, by rw [upd_same, set_next], ?_, q6⟩
                rw [List.reverse_cons, l', List.map_append]
                rfl
              · rw [decide_eq_false hz] at q6
                exact q6.elim
  · have hi' : i = xs.length := by omega
    refine .inl ⟨wi.1 hi', ?_⟩
    rw [hi', List.drop_length] at q'
    obtain ⟨ms, em, hl⟩ := sc_ints q'
    have q7 : Post X.K X.mg c1 H1 ((lift (lenSet acc.reverse) c'.st).andThen fun z => M.pure (W.d z)) (RW X.K) Q (fun cls da H' => Wx cls da σ H') := q'
    have hln : ns.length < 4096 := by
      have := congrArg List.length l'
      simp at this
      omega
    have ev : lenSet acc.reverse = some (.int ((ns.foldl addI []).length : Int)) := by
      unfold lenSet
      rw [l', List.length_map, decide_eq_true hln, if_pos rfl, intsL_ints]
      rfl
    rw [ev] at q7
    exact ⟨Dl, inB ns, (ns.foldl addI []).length, rfl, h', q7 c' H' (.int _) rfl e' o' (.int _)⟩
theorem s_lenSC {Wx : WX} {elt tg it : Expr} {ifs : List Expr} {scope : Scope} {own : List (Str × Nat)} {p : Pt} {cs : List Sm} {me : Sm} {mi : Env → M (List D)} {fp' p2 : Pos} (hg0 : Gl X "len") (hm0 : X.mg "len" = none) (hc : X.calm = true) (hN : X.N.Nodup) (hi : PI X tg it (iG X Wx mi)) (ok : BlkOk X.N X.env.scope scope own)
    (hs : ∀ i ∈ p.slots, i ∈ own.map (·.2)) (hf : ∀ x, foldedSetIterable it X.env x = pure x)
    (hg : ∀ (s : Shared) (H : Hp) (C : Addr) (cl : List (Str × Addr)) (fp : List Addr), PG (X.blk s H scope (compEnvC scope cl C X.env) fp) tg (gP X.K p))
    (ht : ∀ (s : Shared) (H : Hp) (C : Addr) (cl : List (Str × Addr)) (fp : List Addr), PTs (X.blk s H scope (compEnvC scope cl C X.env) fp) ifs (tG X.K X.mg W0 (smT cs) RB))
    (he : ∀ (s : Shared) (H : Hp) (C : Addr) (cl : List (Str × Addr)) (fp : List Addr), PE (X.blk s H scope (compEnvC scope cl C X.env) fp) elt (tG X.K X.mg W0 me.v (RW X.K))) :
    PE X (.Call (.Name "len" fp') [.SetComp elt [⟨tg, it, ifs, 0⟩] scope pos] [] p2) (vG X Wx fun ρ => M.bind (mi ρ) fun xs => M.bind (lcLoop (lcBody p cs me (wipeE ρ (own.map (·.2)))) xs []) scEnd) := by
  exact pe_wk (pe_callB len_setI hg0 hm0 PySem.boot_len (pa_cons (pe_scI hc hN hi ok hg ht he hf) pa_nil rfl) (by decide) (by decide) rfl rfl) (sc_read hs)
end
end Cr

namespace Cr
open PySem PySem.W PySem.Calls PyProof.Rows PySem.HandSPX
/-- the text of such an __init__: its argument's name is its field's -/
def initPs (s x : Str) (p1 p2 : Pos) : Arguments := { posonlyargs := [], args := [{ arg := s, annotation := none, pos := p1 }, { arg := x, annotation := none, pos := p2 }], vararg := none, kwonlyargs := [], kw_defaults := [], kwarg := none, defaults := [] }
def initB (s x : Str) (p1 p2 p3 p4 p5 p6 p7 p8 p9 p10 : Pos) : List Stmt :=
  [.Expr (.Call (.Attribute (.Call (.Name "super" p1) [] [] p2) "__init__" p3) [.Name x p4] [] p5) p6, .Assign [.Attribute (.Name s p7) x p8] (.Name x p9) p10]
structure InitSc (scope : Scope) (s x : Str) : Prop where
  sup : scope.names.lookup ("super" : Str) = some .globalImplicit
  cls : scope.names.lookup ("__class__" : Str) = some .free
  self : scope.names.lookup s = some .local
  arg : scope.names.lookup x = some .local
  cell : ∀ y ∈ scope.names, y.2 ≠ .cell
  kind : scope.kind = .function
  gen : scope.isGenerator = false
  co : scope.isCoroutine = false
/-- how such an __init__ takes its arguments -/
def BindOk (x : Str) : Prop := ∀ (nm qual : Str) (scope : Scope) (cl : List (Str × Addr)) (kV doc pm cdv ct : Value) (an : Option Addr) (body : List Stmt) (p1 p2 : Pos) (u v : Value), bindArgs (fnX nm qual (initPs "self" x p1 p2) body scope cl .none kV doc pm an cdv ct) ⟨[u, v], []⟩ = pure [(("self" : Str), u), (x, v)]
theorem bind_line : BindOk "line" := fun _ _ _ _ _ _ _ _ _ _ _ _ _ _ _ => by first | rfl | with_unfolding_all rfl
theorem bind_reason : BindOk "reason" := fun _ _ _ _ _ _ _ _ _ _ _ _ _ _ _ => by first | rfl | with_unfolding_all rfl
/-- what the written part says of the class at C, of its __init__ at fI -/
structure SupC (P : Program) (K : Frag) (C fI cc cda : Addr) (x : Str) : Prop where
  cls : ∃ nm q N bs bm sn sub ab col dd k0 k1 k2 k3 k5, K.lookup C = some (excClassObj nm q C N bs bm true sn sub ab col dd k0 k1 k2 k3 k5 "ValueError.__new__") ∧ refsVE bm = true
  sa : findIn K (.ref C) "__setattr__" = some (some (.builtin "object.__setattr__"))
  noN : findIn K (.ref C) x = some none
  iC : findIn K (.ref C) "__init__" = some (some (.ref fI))
  tC : typeIn K (.ref fI) = some (.type "function")
  kC : keepIn K (.ref C) = true
  exC : subIn K (.ref C) (.type "BaseException") = some true
  tyC : typeIn K (.ref C) = some (.type "type")
  veC : subIn K (.ref C) (.type "ValueError") = some true
  mC : mroIn K C (.ref C) = some true
  sup : ks_superIn K C C "__init__" = some (some (.builtin "ValueError.__init__"))
  op : nsIn K cStatics "thirdparty.any" = some none
  fn : ∃ (oc : Value) (od : Option Addr) (osl : Array (Option Value)) (nm qual : Str) (scope : Scope) (kV doc pm : Value) (an : Option Addr) (ct : Value) (q1 q2 p1 p2 p3 p4 p5 p6 p7 p8 p9 p10 : Pos),
    K.lookup fI = some ⟨oc, od, .func (fnX nm qual (initPs "self" x q1 q2) (initB "self" x p1 p2 p3 p4 p5 p6 p7 p8 p9 p10) scope [("__class__", cc)] .none kV doc pm an (.ref cda) ct), osl⟩ ∧ codeIn K (.ref cda) qual = true ∧ InitSc scope "self" x ∧ x ≠ "self" ∧ (p3.endLine == p5.line) = true
  code : ∃ (ccl : Value) (cdd : Option Addr) (vs : Array Value) (ccs : Array (Option Value)) (file : Str) (tf : Tok), K.lookup cda = some ⟨ccl, cdd, .fields vs, ccs⟩ ∧ vs[2]? = some (.str file tf) ∧ ((P.main.file : Str) == file) = true
  cellC : ∃ (cl : Value) (cld : Option Addr) (csl : Array (Option Value)), K.lookup cc = some ⟨cl, cld, .cell (some (.ref C)), csl⟩
  top : (P.main.scope.names.lookup ("super" : Str)).isSome = false
  bind : BindOk x
  x1 : (x == ("__debug__" : Str)) = false
/-- a made exception -/
structure Made1 (h h' : Heap) (e C d : Addr) (x : Str) (v : Value) : Prop where
  keep : ∀ b o, h.get? b = some o → h'.get? b = some o
  new : h.objs.size ≤ e
  obj : ∃ oe vs, h'.get? e = some oe ∧ oe.cls = .ref C ∧ oe.dict = some d ∧ oe.data = .fields vs ∧ vs[1]? = some .none
  dbig : h.objs.size ≤ d
  dne : d ≠ e
  ns : h'.Ns1 d (fun y => if y = x then some v else none)
/-- what the globals say around -/
structure Around1 (P : Program) (h : Heap) : Prop where
  gl : ∃ mg, h.Ns mainGlobals mg ∧ mg "super" = none
  bl : ∃ mb, h.Ns builtinsNs mb ∧ mb "super" = some (.type "super")
  nl : h.NoLimit
theorem ns_keeps {h h' : Heap} {a : Addr} {m : Str → Option Value} (n : h.Ns a m) (k : ∀ b o, h.get? b = some o → h'.get? b = some o) : h'.Ns a m := n.keeps k
theorem eval_meth {o : Expr} {name x : Str} {apos pos xp : Pos} {env : PySem.Env} (hl : (apos.endLine == pos.line) = true) : eval (.Call (.Attribute o name apos) [.Name x xp] [] pos) env = (do
      let ov ← attributeBase o name env (eval o env)
      standAt apos.atName
      let (f, first) ← holding [ov] (getMethod ov name (do return (← importBound o env).getD true))
      callWith pos f first (backTo pos (starEach [.Name x xp] env)) []) := by
  rw [arm_eval_Call]
  have hform : methodCallForm ([Expr.Name x xp].length + ([] : List Keyword).length) (backTo pos (starEach [Expr.Name x xp] env)) (backToKw pos (keywordEach [] env)) = true := rfl
  have hpos : methodCallPos true o env apos pos = pure pos := by unfold methodCallPos; simp [hl]
  unfold methodCall
  rw [hform]
  simp only [hpos, pure_bind]
  rfl
section
variable {prog : Program} {w : World} {A : Around} {E : Value → Shared → Prop} {R : Result → Shared → Prop} {s : Shared} {K : Frag} {C fI cc cda : Addr} {x : Str}
theorem lt_ne {h : Heap} {b : Addr} {o : Obj} (e : h.get? b = some o) : b ≠ h.objs.size := Nat.ne_of_lt (Heap.lt_size e)
/-- the bound __init__ of the built-in base, called -/
theorem base_init {u e t0 : Addr} {hp : Heap} {g : Array GenState} {d : Drawn} {t : Nat} {os : OsState} {rest : List Value} {nm q : Str} {N : Addr} {bs bm : List Value} {hdct : Bool} {sn : List Str} {sub : List Value} {ab : Bool} {col : Option Bool} {dd : Option Addr} {k0 k1 k2 k3 k5 : Option Value} {Q : Value → Shared → Prop}
    (hC : hp.get? C = some (excClassObj nm q C N bs bm hdct sn sub ab col dd k0 k1 k2 k3 k5 "ValueError.__new__")) (he : hp.get? e = some (excO C t0)) (hu : hp.get? u = some (kxs_mw "ValueError.__init__" e)) (hl : rest.length ≤ sizeLine)
    (hq : ∀ h' t1, (∀ b o, b ≠ e → hp.get? b = some o → h'.get? b = some o) → h'.get? e = some (excO C t1) → Q .none ⟨h', g, d, t, os⟩) :
    wpAny (model prog w) A (call (.ref u) rest) Q E ⟨hp, g, d, t, os⟩ := by
  have FB := F.excBase_ValueError
  refine wpAny_call (codeAny_of_tree ?_)
  show wpAny _ A.in1 (callAny (.ref u) ⟨rest, []⟩) _ _ _
  simp only [callAny]
  refine wpAny_bind (wpAny_load hu ?_)
  simp only [kxs_mw, show (Value.type "method-wrapper" == Value.type "method" || Value.type "method-wrapper" == Value.type "builtin_function_or_method" || Value.type "method-wrapper" == Value.type "method-wrapper") = true by decide, if_true]
  refine KFB.if_so (by decide) (wpAny_bind (check_bound_init FB.toExcCallFacts hC he rfl (wpAny_bind (wpAny_pure (wpAny_pure ⟨plainId_quiet FB.init.plain _, codeAny_builtin FB.initEntry ?_⟩)))))
  exact exc_init_tree (cls := .ref C) (t0 := t0) (dv := none) (c2 := .none) (c3 := .none) (b4 := .bool false) he hl fun h' k e1 _ => hq h' _ k e1
/-- __init__(e, v) on a fresh exception at e -/
theorem sup_init (T : SupC prog K C fI cc cda x) {e t0 : Addr} {v : Value} (X : K.In s.heap) (ar : Around1 prog s.heap) (he : s.heap.get? e = some (excO C t0)) (hne : K.lookup e = none) (hroom : A.depth < recursionLimit)
    (hq : ∀ h' tk dx t1, (∀ b o, b ≠ e → s.heap.get? b = some o → h'.get? b = some o) → h'.get? e = some { cls := .ref C, dict := some dx, data := .fields #[.ref t1, .none, .none, .none, .bool false, .none] } → s.heap.objs.size ≤ dx → dx ≠ e →
      h'.Ns1 dx (fun y => if y = x then some v else none) → R (.ok (.ret .none)) { s with heap := h', toks := tk }) :
    codeAny (model prog w) A (.call (.ref fI) ⟨[.ref e, v], []⟩) R s := by
  obtain ⟨oc, od, osl, nm, qual, scope, kV, doc, pm, an, ct, q1, q2, p1, p2, p3, p4, p5, p6, p7, p8, p9, p10, hf, hcd, SC, xne, hl⟩ := T.fn
  obtain ⟨cn, cq, cN, cbs, bm, csn, csub, cab, ccol, cdd', k0, k1, k2, k3, k5, hC, hbm⟩ := T.cls
  obtain ⟨ccl, cdd, vs, ccs, file, tf, hcda, hvs, hfile⟩ := T.code
  obtain ⟨cl, cld, csl, hcell⟩ := T.cellC
  have hcl : clsIn K C = some { name := cn, bases := cbs, mro := .ref C :: bm, ns := cN, qualname := cq, hasDict := true, slotNames := csn, subclasses := csub, abstract := cab, collection := ccol, hasDel := false } := by unfold clsIn; rw [hC] <;> rfl
  refine ks_codeAny_call_defAt (fd := fnX nm qual (initPs "self" x q1 q2) (initB "self" x p1 p2 p3 p4 p5 p6 p7 p8 p9 p10) scope [("__class__", cc)] .none kV doc pm an (.ref cda) ct) (body := initB "self" x p1 p2 p3 p4 p5 p6 p7 p8 p9 p10) (binds := [("self", .ref e), (x, v)])
    hroom (X _ _ hf) rfl ar.nl (codeRec_of X hcd) rfl (BindsTo.of_eq (T.bind _ _ _ _ _ _ _ _ _ _ _ _ _ _ _)) SC.cell (fun y my => ?_) (fun h1 hns k1 => ?_) SC.co SC.gen SC.kind
  · rcases List.mem_cons.mp my with rfl | my
    · exact SC.self
    · rcases List.mem_cons.mp my with rfl | my
      · exact SC.arg
      · cases my
  · have X1 : K.In h1 := X.keeps k1
    have lu : ∀ (y : Str) (u : Value), [(("self" : Str), Value.ref e), (x, v)].reverse.lookup y = some u → (fun y => [(("self" : Str), Value.ref e), (x, v)].reverse.lookup y) y = some u := fun y u z => z
    have lself : [(("self" : Str), Value.ref e), (x, v)].reverse.lookup ("self" : Str) = some (.ref e) := by
      have b : (("self" : Str) == x) = false := by
        rw [beq_eq_false_iff_ne]
        exact fun z => xne z.symm
      show (match ("self" : Str) == x with | true => some v | false => (match ("self" : Str) == ("self" : Str) with | true => some (Value.ref e) | false => none)) = _
      rw [b]
      simp
    have larg : [(("self" : Str), Value.ref e), (x, v)].reverse.lookup x = some v := by
      show (match x == x with | true => some v | false => _) = _
      simp
    obtain ⟨mg, hg, hmg⟩ := ar.gl
    obtain ⟨mb, hb, hmb⟩ := ar.bl
    have he1 := k1 _ _ he
    have mroC : ∀ {h : Heap}, K.In h → W.Looks (model prog w) h (mroOf (.ref C)) (.ref C :: bm) := fun X => (looks_clsIn X hcl).andThen .now
    have quiet : interactive (callEnv (fnX nm qual (initPs "self" x q1 q2) (initB "self" x p1 p2 p3 p4 p5 p6 p7 p8 p9 p10) scope [("__class__", cc)] .none kV doc pm an (.ref cda) ct) s.heap.objs.size fI) = false := by
      show (scope.kind == .module && _) = false
      rw [SC.kind]
      rfl
    refine ks_wpAt_execs_cons (ks_wpAt_Expr_any (ks_wpAt_MethodCall ?_ (eval_meth hl)) quiet)
    refine ks_wpAt_super_base SC.sup SC.cls (by decide) rfl (X1 _ _ hf) rfl rfl rfl (X1 _ _ hcda) rfl hvs hfile T.top ?_
    refine ks_loadName_global SC.kind SC.sup (loadGlobal_builtin (hg.keeps k1) hmg (hb.keeps k1) hmb ⟨rfl, ?_⟩)
    refine wpAny_loadName_free SC.kind SC.cls rfl ⟨_, X1 _ _ hcell, rfl⟩ ?_
    refine wpAny_loadName_local SC.kind SC.self hns lself ?_
    refine ks_wpAny_isType_cls (X1 _ _ hC) rfl ⟨rfl, ?_⟩
    refine ks_wpAny_call_super (X1 _ _ hC) rfl he1 rfl (fun c z => by cases z) (looks_mroIn X1 T.mC) (fun h2 e2 k2 => ?_)
    have X2 : K.In h2 := X1.keeps k2
    have he2 := k2 _ _ he1
    have I2 : InstAt h2 e (excO C t0) C none := ⟨he2, rfl, rfl, trivial⟩
    have hal : alongIn K "__init__" (((Value.ref C :: bm).dropWhile (· != .ref C)).drop 1) = some (some (.builtin "ValueError.__init__")) := by
      have z := T.sup
      unfold ks_superIn at z
      rw [hcl] at z
      exact z
    have hne2 : e ≠ C := fun z => by
      rw [z] at hne
      rw [hC] at hne
      cases hne
    refine kxs_getMethod kxs_ValueError e2 (looks_opaque X2 T.op) (mroC X2) rfl X2 hal (I2.type.andThen (looks_subIn X2 T.veC)) hne2 (by decide) ?_
    have k3 : ∀ b o, h2.get? b = some o → (h2.push (kxs_mw "ValueError.__init__" e)).get? b = some o := fun b o z => Heap.get?_push_of_some _ z
    have hu : (h2.push (kxs_mw "ValueError.__init__" e)).get? h2.objs.size = some (kxs_mw "ValueError.__init__" e) := Heap.get?_push_size _ rfl
    have k13 : ∀ b o, h1.get? b = some o → (h2.push (kxs_mw "ValueError.__init__" e)).get? b = some o := fun b o z => k3 b o (k2 b o z)
    have X3 := X2.keeps k3
    refine kxs_callWith (i := "ValueError.__init__") (x := e) rfl (Calls.evalArgs_plain (Calls.spliced_cons ?_))
    refine wpAny_Name (wpAny_loadName_local SC.kind SC.arg (hns.keeps k13) larg (Calls.spliced_nil ⟨hu, ?_⟩)) T.x1
    refine base_init (X3 _ _ hC) (k3 _ _ he2) hu (by rw [sizeLine_eq]; exact (by decide : 1 ≤ 16777216)) fun h4 t1 k4 he4 => ?_
    have keep4 : ∀ b o, b ≠ e → h1.get? b = some o → h4.get? b = some o := fun b o nb z => k4 b o nb (k13 b o z)
    have X4 : K.In h4 := fun a o z => keep4 a o (fun y => by rw [y, hne] at z; cases z) (X1 a o z)
    have Lne : s.heap.objs.size ≠ e := Nat.ne_of_gt (Heap.lt_size he)
    have ns4 : h4.Ns s.heap.objs.size (fun y => [(("self" : Str), Value.ref e), (x, v)].reverse.lookup y) := by
      obtain ⟨oL, es, ep, hL, r⟩ := hns
      exact ⟨oL, es, ep, keep4 _ _ Lne hL, r⟩
    have Lbig : s.heap.objs.size < h4.objs.size := by
      obtain ⟨oL, es, ep, hL, r⟩ := ns4
      exact Heap.lt_size hL
    refine ks_wpAt_execs_cons (wpAt_of_wpAny (plainObj_wpAny_Assign_Attribute ?_))
    refine wpAny_Name (wpAny_loadName_local SC.kind SC.arg ns4 larg (wpAny_Name (wpAny_loadName_local SC.kind SC.self ns4 lself ?_) (by decide))) T.x1
    refine set_plain X4 (ox := excO C t1) (od := none) ⟨he4, rfl, rfl, trivial⟩ T.sa ?_
    refine exc_osa X4 he4 hcl (show refsVE (.ref C :: bm) = true from hbm) rfl T.noN (fun h5 tk5 dx k5 dn dne he5 hn5 => ?_)
    refine wpAt_of_wpAny (wpAny_execs_nil ?_)
    exact hq h5 tk5 dx t1 (fun b o nb z => k5 b o nb (keep4 b o nb (k1 b o z))) he5 (Nat.le_of_lt (Nat.lt_of_lt_of_le Lbig dn)) dne hn5
/-- C(v) -/
theorem sup_made (T : SupC prog K C fI cc cda x) {v : Value} (X : K.In s.heap) (ar : Around1 prog s.heap) (hroom : A.depth + 1 < recursionLimit) (hq : ∀ h' tk e d, Made1 s.heap h' e C d x v → R (.ok (.ret (.ref e))) { s with heap := h', toks := tk }) :
    codeAny (model prog w) A (.call (.ref C) ⟨[v], []⟩) R s := by
  obtain ⟨cn, cq, cN, cbs, bm, csn, csub, cab, ccol, cdd', k0, k1, k2, k3, k5, hC, hbm⟩ := T.cls
  obtain ⟨hp, g, dr, tk, os⟩ := s
  have k : ∀ b o, hp.get? b = some o → ((hp.push (kdv_tup [v])).push (excO C hp.objs.size)).get? b = some o := fun b o z => Heap.get?_push_of_some _ (Heap.get?_push_of_some _ z)
  have at1 : ((hp.push (kdv_tup [v])).push (excO C hp.objs.size)).get? (hp.objs.size + 1) = some (excO C hp.objs.size) := by heap_get
  have none1 : K.lookup (hp.objs.size + 1) = none := by
    cases z : K.lookup (hp.objs.size + 1) with
    | none => rfl
    | some o => exact absurd (Nat.lt_of_succ_lt (Heap.lt_size (show hp.get? (hp.objs.size + 1) = some o from X _ _ z))) (Nat.lt_irrefl _)
  obtain ⟨⟨mg, hg, hmg⟩, ⟨mb, hb, hmb⟩, nl⟩ := ar
  refine call_own F.excBase_ValueError (fun Y => refsVE_contains Y bm hbm) (X _ _ hC) (looks_findIn X T.iC) (fun self => bind_fn X self T.tC) (by rw [sizeLine_eq]; exact (by decide : 1 ≤ 16777216)) ?_
  refine sup_init (s := ⟨(hp.push (kdv_tup [v])).push (excO C hp.objs.size), g, dr, tk, os⟩) T (X.keeps k) ⟨⟨mg, hg.keeps k, hmg⟩, ⟨mb, hb.keeps k, hmb⟩, nl.keeps k⟩ at1 none1 hroom fun h' tk' dx t1 k' hx dn dne hns => ⟨rfl, hq h' tk' (hp.objs.size + 1) dx ?_⟩
  have big : hp.objs.size + 1 + 1 ≤ dx := by
    have z := dn
    rw [show (Shared.heap ⟨(hp.push (kdv_tup [v])).push (excO C hp.objs.size), g, dr, tk, os⟩) = (hp.push (kdv_tup [v])).push (excO C hp.objs.size) from rfl, Heap.size_push, Heap.size_push] at z
    exact z
  exact ⟨fun b o z => k' b o (Nat.ne_of_lt (Nat.lt_succ_of_lt (Heap.lt_size z))) (k b o z), Nat.le_succ _, ⟨_, _, hx, rfl, rfl, rfl, rfl⟩, Nat.le_trans (Nat.le_trans (Nat.le_succ _) (Nat.le_succ _)) big, dne, hns⟩
end
end Cr

namespace Cr
open PySem PySem.Spec PyProof.Rows L2
theorem relO_one {x : Str} {v : V} {v' : Value} (r : RelV v v') (f : Str) : RelO (List.lookup f [(x, v)]) (if f = x then some v' else none) := by
  by_cases hw : f = x
  · subst hw
    rw [if_pos rfl]
    have q : List.lookup f [(f, v)] = some v := by simp [List.lookup]
    rw [q]
    exact r
  · rw [if_neg hw]
    have qw : (f == x) = false := by simpa using hw
    have q2 : List.lookup f [(x, v)] = none := by simp [List.lookup, qw]
    rw [q2]
    trivial
section
variable {X : Cx} {C fI cc cda : Addr} {c x : Str}
/-- C(e) -/
def tMkS (C : Addr) (x : Str) (ta : TA) : L2.St → Hp → XK → Prop := fun σ H Q => ta σ H fun vs H1 => ∃ v, vs = [v] ∧ ∀ d, H1 d = none → Q (.ref C) (some d) (upd H1 d (.xd [(x, v)]))
theorem pmk_sup {a : Expr} {ta : TA} {p pos : Pos} {k : Nat} (T : SupC X.prog X.K C fI cc cda x) (hm : X.mg c = some (.ref C)) (hsu : X.mg "super" = none) (hr : Room k X.A) (ha : PA X [a] ta) (hg : Gl X c) (hdb : (c == ("__debug__" : Str)) = false) (h1 : isStar a = false) :
    PMk X (.Call (.Name c p) [a] [] pos) (tMkS C x ta) := by
  intro pins s σ H Q I h
  refine wpAny_Call_Name_kw (ld_glob I hg hm ?_ hdb)
  refine PySem.W.callWith_K (h₀ := X.base) I.ok.mod.kin T.kC (thn (ha.run pos pins s σ H _ I h) fun us s1 hh => ?_) (star_ne h1) rfl
  obtain ⟨vs, H1, I1, r1, v, ev, q1⟩ := hh
  subst ev
  refine ⟨I1.kIn, ?_⟩
  cases r1 with
  | cons rv rn =>
    rename_i v' us'
    cases rn
    show wpAny _ _ (call (.ref C) [v']) _ _ _
    have hlim := I1.nolimit
    obtain ⟨mb, b1, b2⟩ := I1.mod.blt
    have ar : Around1 X.prog s1.heap := ⟨⟨X.mg, I1.mod.glob.keeps I1.bk, hsu⟩, ⟨mb, b1.keeps I1.bk, (b2 "super" (by decide)).trans (by decide +kernel)⟩, hlim⟩
    obtain ⟨hp, g, dr, tk, os⟩ := s1
    refine wpAny_call (sup_made T I1.kIn ar (by have := hr.dp; omega) fun h' tk' e d M => ?_)
    show MkP X pins σ Q (.ref e) ⟨h', g, dr, tk', os⟩
    obtain ⟨oe, fv, hoe, hc, hd, hdat, h1⟩ := M.obj
    have hns := M.ns
    obtain ⟨G', g1, g2⟩ := restrict h' fun b => decide (b ≠ e)
    have gk : ∀ b, b ≠ e → G'.get? b = h'.get? b := fun b hb => g1 b (decide_eq_true hb)
    have ge : G'.get? e = none := g2 e (by simp)
    have old : ∀ b o, hp.get? b = some o → G'.get? b = some o := fun b o q => (gk b (Nat.ne_of_lt (Nat.lt_of_lt_of_le (Heap.lt_size q) M.new))).trans (M.keep b o q)
    have ob : ObjOk X.prog X.w (upd H1 d (.xd [(x, v)])) G' d (.xd [(x, v)]) :=
      ⟨_, hns.at (fun o q => (gk d M.dne).trans q), fun f => relO_one rv f⟩
    have J : Inv X pins σ (upd H1 d (.xd [(x, v)])) ⟨G', g, dr, tk', os⟩ := I1.laid (t' := tk') old M.dbig ob
    refine ⟨e, oe, fv, ⟨G', g, dr, tk', os⟩, _, .ref C, some d, rfl, J, fun b o q => ?_, ge, hoe, ⟨hc, hd⟩, hdat, h1, ?_, rfl, I1.bare, raises_own T.exC T.tyC, q1 d (I1.hok.fresh M.dbig)⟩
    · by_cases hb : b = e
      · have q' : G'.get? b = some o := q
        rw [hb, ge] at q'; cases q'
      · exact (gk b hb).symm.trans q
    · rw [upd_ne (Ne.symm M.dne)]
      exact I1.hok.fresh M.new
end
end Cr

namespace Cr
open PySem L2
def isBiName (x : Str) : Prop := (∃ f : Bi, x = nmBi f) ∨ (∃ t : Ty, x = tyS t) ∨ x = "range" ∨ x = "enumerate" ∨ x = "zip" ∨ x = "isinstance"
/-- an own exception's class -/
structure ExcK (X : Cx) (c f : Str) : Prop where
  ex : ∃ C fI cc cda, X.mg c = some (.ref C) ∧ SupC X.prog X.K C fI cc cda f ∧ XfC X.K C ∧ PySem.W.exmOne X.K (.ref C) (.ref C) = some true
  su : X.mg "super" = none
structure GX (run : Str → List W → M W) (gl : Str → Option D) (cc : CC) (k : Nat) (sc raw : Scope) (X : Cx) : Prop where
  calm : X.calm = true
  N : X.N = cc.N
  nd : cc.N.Nodup
  scope : X.env.scope = sc
  rawL : ∀ x, raw.names.lookup x = some .local → sc.names.lookup x = some .local
  rawC : ∀ x, raw.names.lookup x = some .cell → sc.names.lookup x = some .cell ∧ X.fn x = true
  room : Room k X.A
  gls : ∀ x d, cc.gl x = true → gl x = some d → ∃ u v, X.mg x = some u ∧ RelV v u ∧ ∀ B, Den X.K B d v
  fns : ∀ f, cc.fn f = true → Fnk X run k f
  bis : ∀ x, cc.fn x = false → isBiName x → X.mg x = none
  gcd : cc.gcd = true → X.mg "gcd" = some (.builtin "math.gcd")
  exs : ∀ c f, cc.ex c = some f → ExcK X c f
section
variable {run : Str → List W → M W} {gl : Str → Option D} {cc : CC} {k : Nat} {sc raw : Scope} {X : Cx}
def Good3 (run : Str → List W → M W) (gl : Str → Option D) (X : Cx) (e : Expr) (E : E) : Prop := ∀ Wx, Takes X Wx →
  PE X e (vG X Wx (sem run gl E).v) ∧ PT X e (bG X Wx (sem run gl E).t) ∧ ∀ tg, walkOk tg e = true → PI X tg e (iG X Wx (sem run gl E).i)
theorem good_bad {e : Expr} : Good3 run gl X e .bad := fun Wx tk => ⟨pe_none (tG_bad fun _ _ => rfl), pt_none (tG_bad fun _ _ => rfl), fun tg _ => pi_none (tG_bad fun _ _ => rfl)⟩
theorem good_v {e : Expr} {E : E} {v : Env → M W} (hE : sem run gl E = ofV v) (hp : Plain X e) (h : ∀ Wx, Takes X Wx → PE X e (vG X Wx v)) : Good3 run gl X e E := fun Wx tk => by
  rw [hE]
  exact ⟨h Wx tk, s_truth (h Wx tk) hp, fun tg _ => s_walk (h Wx tk)⟩
theorem slot_ok {x : Str} {i : Nat} (h : slot? cc sc x = some i) : cc.N[i]? = some x ∧ Vis sc x ∧ (x == ("__debug__" : Str)) = false ∧ (x == ("__classdict__" : Str)) = false := by
  have go : (if (x == ("__debug__" : Str) || x == ("__classdict__" : Str)) = true then none else cc.N.idxOf? x) = some i → cc.N[i]? = some x ∧ (x == ("__debug__" : Str)) = false ∧ (x == ("__classdict__" : Str)) = false := fun h => by
    by_cases b : (x == ("__debug__" : Str) || x == ("__classdict__" : Str)) = true
    · rw [if_pos b] at h
      cases h
    · rw [if_neg b] at h
      have b' : (x == ("__debug__" : Str)) = false ∧ (x == ("__classdict__" : Str)) = false := by simpa using b
      obtain ⟨h1, h2⟩ := List.findIdx?_eq_some_iff_getElem.mp h
      obtain ⟨h2, _⟩ := h2
      refine ⟨?_, b'⟩
      rw [List.getElem?_eq_getElem h1]
      exact congrArg some (by simpa using h2)
  unfold slot? at h
  split at h
  · rename_i hk
    obtain ⟨h1, h2, h3⟩ := go h
    exact ⟨h1, .inl hk, h2, h3⟩
  · rename_i hk
    obtain ⟨h1, h2, h3⟩ := go h
    exact ⟨h1, .inr (.inl hk), h2, h3⟩
  · rename_i hk
    obtain ⟨h1, h2, h3⟩ := go h
    exact ⟨h1, .inr (.inr hk), h2, h3⟩
  · cases h
theorem glob_ok {x : Str} (h : glob? sc x = true) : sc.names.lookup x = some .globalImplicit ∧ (x == ("__debug__" : Str)) = false := by
  unfold glob? at h
  simp only [Bool.and_eq_true, beq_iff_eq, Bool.not_eq_true'] at h
  exact ⟨h.1.1, h.1.2⟩
theorem GX.g {x : Str} (G : GX run gl cc k sc raw X) (h : sc.names.lookup x = some .globalImplicit) : Gl X x := by
  show X.env.scope.names.lookup x = _
  rw [G.scope]
  exact h
theorem pes_of {f : Expr → E} {Wx : WX} (tk : Takes X Wx) : ∀ {es : List Expr}, (∀ e ∈ es, Good3 run gl X e (f e)) → noStar es = true → PEs X Wx es (sems run gl (es.map f))
  | [], _, _ => .nil
  | e :: es, h, hs => by
    have hs : (!isStar e && noStar es) = true := hs
    obtain ⟨h1, h2⟩ := and2 hs
    exact .cons (by simpa using h1) (h e (by simp) Wx tk).1 (pes_of tk (fun e' he => h e' (by simp [he])) h2)
/-- a row of expressions, replace among them behind a written number or text -/
theorem pat_wk {es : List Expr} {t t' : TA} (h : PAT X es t) (w : ∀ σ H Q, t' σ H Q → t σ H Q) : PAT X es t' := fun pos pins s σ H Q h0 I q => h pos pins s σ H Q h0 I (w σ H Q q)
theorem asRepl_ok {e o : Expr} {y z : List Nat} (h : asRepl e = some (o, y, z)) : ∃ (ap cp c0 c1 : Pos) (ys zs : Str) (j0 j1 : Nat), e = .Call (.Attribute o "replace" ap) [.Constant (.str ys) j0 c0, .Constant (.str zs) j1 c1] [] cp ∧ y = ys.cps.toList ∧ z = zs.cps.toList ∧ (ap.endLine == cp.line) = true ∧ isSuper o = false ∧ (ys == zs) = false := by
  unfold asRepl at h
  split at h
  · rename_i o f ap ys j0 c0 zs j1 c1 cp
    split at h
    · rename_i hc
      cases h
      obtain ⟨hc, h4⟩ := and2 hc
      obtain ⟨h1, h2, h3⟩ := and3 hc
      have e := eq_of_beq h1
      subst e
      exact ⟨ap, cp, c0, c1, ys, zs, j0, j1, rfl, rfl, rfl, h2, by simpa using h3, by simpa using h4⟩
    · cases h
  · cases h
theorem smL_read {Wx : WX} {m : Sm} {ms : List Sm} : ∀ σ H Q, lG X Wx (smL (m :: ms)) σ H Q → tCons (vG X Wx m.v) (lG X Wx (smL ms)) σ H Q := fun σ H Q ⟨c, ρ, o, e, p⟩ =>
  (tG.bind o e rfl p).imp fun x H1 ⟨c1, w, e1, o1, er1, d1, p1⟩ => (tG.bind o1 er1 rfl p1).imp fun xs H2 ⟨c2, ws, e2, o2, er2, d2, p2⟩ => p2.now o2 (.cons (WDen.mono e2 d1) d2)
theorem pat_of {f : Expr → E} {Wx : WX} (tk : Takes X Wx) (h : ∀ e, Good3 run gl X e (f e)) : ∀ {es : List Expr}, noStar es = true → PAT X es (lG X Wx (smL (sems run gl (compL f true es))))
  | [], _ => fun pos pins s σ H Q h0 I ⟨c, ρ, o, e, p⟩ => (pa_nil (X := X)).run pos pins s σ H Q I (p.now o .nil)
  | e :: es, hs => by
    have hs : (!isStar e && noStar es) = true := hs
    obtain ⟨h1, h2⟩ := and2 hs
    have h1 : isStar e = false := by simpa using h1
    have r := pat_of tk h h2
    have key : ∀ E : E, PET X e (vG X Wx (sem run gl E).v) → PAT X (e :: es) (lG X Wx (smL (sems run gl (E :: compL f true es)))) := fun E k => pat_wk (pat_cons k r (star_ne h1)) smL_read
    show PAT X (e :: es) (lG X Wx (smL (sems run gl ((match true, asRepl e with
      | true, some (o, y, z) => .repl (f o) y z
      | _, _ => f e) :: compL f true es))))
    cases ea : asRepl e with
    | none => exact key (f e) (CwR.PET.of (h e Wx tk).1)
    | some q =>
      obtain ⟨o, y, z⟩ := q
      obtain ⟨ap, cp, c0, c1, ys, zs, j0, j1, rfl, rfl, rfl, hl, hsu, hyz⟩ := asRepl_ok ea
      exact key (.repl (f o) ys.cps.toList zs.cps.toList) (s_repl (h o Wx tk).1 hyz hsu hl)
theorem pa_of {f : Expr → E} {Wx : WX} (tk : Takes X Wx) (h : ∀ e, Good3 run gl X e (f e)) (hlit : ∀ e, isLit e = true → (f e = .bad ∨ ∃ k j p d, e = .Constant k j p ∧ f e = .con d ∧ conD k = some d)) : ∀ {es : List Expr}, noStar es = true → PA X es (lG X Wx (smL (sems run gl (compL f false es))))
  | [], _ => pa_wk pa_nil fun σ H Q ⟨c, ρ, o, e, p⟩ => p.now o .nil
  | e :: es, hs => by
    have hs : (!isStar e && noStar es) = true := hs
    obtain ⟨h1, h2⟩ := and2 hs
    have h1 : isStar e = false := by simpa using h1
    show PA X (e :: es) (lG X Wx (smL (sems run gl (f e :: compL f (false || isLit e) es))))
    cases hl : isLit e with
    | false => exact pa_wk (pa_cons (h e Wx tk).1 (pa_of tk h hlit h2) (star_ne h1)) smL_read
    | true =>
      have r := pat_of tk h h2
      rcases hlit e hl with hb | ⟨k, j, p, d, rfl, hc, hd⟩
      · rw [hb]
        exact pa_none (tG_bad fun _ _ => rfl)
      · rw [hc]
        refine ⟨fun pos pins s σ H Q I ⟨c, ρ, o, er, q⟩ => ?_⟩
        rw [star_ne h1]
        have fin : ∀ (v : V) (u : Value), RelV v u → Den X.K c.B d v → wpAny (model X.prog X.w) X.A (spliced (backTo pos (starEach es X.env))) (fun us s' => AP X pins σ Q (u :: us) s') X.xe { s with toks := s.toks + 1 } := fun v u rv dv => by
          have q1 : Post X.K X.mg c H (M.bind (smL (sems run gl (compL f true es)) ρ) (fun ws => M.pure (W.d d :: ws)) c.st) (RL X.K) Q (fun cls da H' => Wx cls da σ H') := q
          have q2 := tG.bind (R1 := RL X.K) (Wx := Wx) (m := fun ρ => smL (sems run gl (compL f true es)) ρ) o er rfl q1
          refine thn (r pos pins _ σ H _ (by show 1 ≤ s.toks + 1; omega) (I.tok (s.toks + 1)) (q2.imp fun xs H2 ⟨c2, ws, e2, o2, er2, d2, p2⟩ => (show Q (v :: xs) H2 from p2.now (b := v :: xs) o2 (.cons (WDen.mono e2 (show WDen X.K c (.d d) v from dv)) d2)))) fun us s2 ⟨xs, H2, I2, r2, q3⟩ => ⟨v :: xs, H2, I2, .cons rv r2, q3⟩
        cases k with
        | int i =>
          cases hd
          exact Calls.spliced_cons (wpAny_Constant_int (k := j) (pos := p) (fin (.int i) _ ⟨_, rfl⟩ (.int i)))
        | str z =>
          cases hd
          refine Calls.spliced_cons (Calls.Constant_str (k := j) (pos := p) (fin (.str ⟨z.cps.toList.toArray⟩) _ ⟨s.toks, ?_⟩ (.str _)))
          rw [S_of]
        | _ => cases hl
theorem lit_comp {n m : Nat} {sc : Scope} : ∀ e, isLit e = true → (compE cc n sc m e = .bad ∨ ∃ k j p d, e = .Constant k j p ∧ compE cc n sc m e = .con d ∧ conD k = some d) := fun e h => by
  cases n with
  | zero => exact .inl rfl
  | succ n =>
    cases e with
    | Constant k j p =>
      cases k with
      | int i => exact .inr ⟨_, j, p, .int i, rfl, rfl, rfl⟩
      | str z => exact .inr ⟨_, j, p, .str z.cps.toList, rfl, rfl, rfl⟩
      | _ => cases h
    | _ => cases h
theorem and_list {f : Expr → E} {Wx : WX} {pos : Pos} (tk : Takes X Wx) : ∀ {es : List Expr}, es ≠ [] → (∀ e ∈ es, Good3 run gl X e (f e)) →
    PE X (.BoolOp .And es pos) (vG X Wx (sem run gl (andE (es.map f))).v) ∧ PW X (.BoolOp .And es pos) (bG X Wx (sem run gl (andE (es.map f))).t)
  | [], h, _ => absurd rfl h
  | [e], _, h => ⟨pe_one (h e (by simp) Wx tk).1, pw_and1 (h e (by simp) Wx tk).2.1⟩
  | e :: e2 :: es, _, h => by
    obtain ⟨i1, i2⟩ := and_list (pos := pos) tk (es := e2 :: es) (by simp) (fun e' he => h e' (by simp [he]))
    obtain ⟨h1, h2, _⟩ := h e (by simp) Wx tk
    exact ⟨s_and h1 i1, s_andT h2 i2⟩
theorem or_list {f : Expr → E} {Wx : WX} {pos : Pos} (tk : Takes X Wx) : ∀ {es : List Expr}, es ≠ [] → (∀ e ∈ es, Good3 run gl X e (f e)) →
    PE X (.BoolOp .Or es pos) (vG X Wx (sem run gl (orE (es.map f))).v) ∧ PW X (.BoolOp .Or es pos) (bG X Wx (sem run gl (orE (es.map f))).t)
  | [], h, _ => absurd rfl h
  | [e], _, h => ⟨pe_one (h e (by simp) Wx tk).1, pw_or1 (h e (by simp) Wx tk).2.1⟩
  | e :: e2 :: es, _, h => by
    obtain ⟨i1, i2⟩ := or_list (pos := pos) tk (es := e2 :: es) (by simp) (fun e' he => h e' (by simp [he]))
    obtain ⟨h1, h2, _⟩ := h e (by simp) Wx tk
    exact ⟨s_or h1 i1, s_orT h2 i2⟩
theorem pt_ok (G : GX run gl cc k sc raw X) : ∀ (n : Nat) (e : Expr) (p : Pt), compPt cc raw n e = some p → PG X e (gP X.K p)
  | 0, e, p, h => by cases h
  | n + 1, e, p, h => by
    cases e with
    | Name x pos =>
      obtain ⟨i, hi, h⟩ := Option.bind_eq_some_iff.mp (show ((slot? cc raw x).bind fun i => match raw.names.lookup x with | some .local | some .cell => some (Pt.name i) | _ => none) = some p from h)
      obtain ⟨h1, _⟩ := slot_ok hi
      have hN : X.N.Nodup := G.N ▸ G.nd
      have hx : X.N[i]? = some x := by rw [G.N]; exact h1
      split at h
      · rename_i hl
        cases h
        have q := G.rawL x hl
        rw [← G.scope] at q
        exact s_name hN hx (.inl q) (.inr q)
      · rename_i hl
        cases h
        obtain ⟨q, q2⟩ := G.rawC x hl
        rw [← G.scope] at q
        exact s_name hN hx (.inr q) (.inl q2)
      · cases h
    | Tuple es j pos =>
      obtain ⟨ps, hp, rfl⟩ := Option.map_eq_some_iff.mp (show ((es.mapM (compPt cc raw n)).map Pt.tup) = some p from h)
      have go : ∀ (es : List Expr) (ps : List Pt), es.mapM (compPt cc raw n) = some ps → PPt X es ps := by
        intro es
        induction es with
        | nil =>
          intro ps h
          cases h
          exact .nil
        | cons e es ih =>
          intro ps h
          rw [List.mapM_cons] at h
          obtain ⟨q, h1, h⟩ := Option.bind_eq_some_iff.mp h
          obtain ⟨r, h2, h⟩ := Option.bind_eq_some_iff.mp h
          cases h
          refine .cons ?_ (pt_ok G n e q h1) (ih r h2)
          cases e <;> first | rfl | (cases n <;> cases h1)
      exact s_tupT G.calm (go es ps hp)
    | _ => cases h
theorem slots_eq : ∀ (n : Nat) (e : Expr) (p : Pt), compPt cc raw n e = some p → ptSlots n p = p.slots
  | 0, e, p, h => by cases h
  | n + 1, e, p, h => by
    cases e with
    | Name x pos =>
      obtain ⟨i, hi, h⟩ := Option.bind_eq_some_iff.mp (show ((slot? cc raw x).bind fun i => match raw.names.lookup x with | some .local | some .cell => some (Pt.name i) | _ => none) = some p from h)
      split at h
      · cases h; simp [ptSlots, Pt.slots]
      · cases h; simp [ptSlots, Pt.slots]
      · cases h
    | Tuple es j pos =>
      obtain ⟨ps, hp, rfl⟩ := Option.map_eq_some_iff.mp (show ((es.mapM (compPt cc raw n)).map Pt.tup) = some p from h)
      have go : ∀ (es : List Expr) (ps : List Pt), es.mapM (compPt cc raw n) = some ps → ps.flatMap (ptSlots n) = Pts.slots ps := by
        intro es
        induction es with
        | nil =>
          intro ps h
          cases h
          rfl
        | cons e es ih =>
          intro ps h
          rw [List.mapM_cons] at h
          obtain ⟨q, h1, h⟩ := Option.bind_eq_some_iff.mp h
          obtain ⟨r, h2, h⟩ := Option.bind_eq_some_iff.mp h
          cases h
          rw [List.flatMap_cons, slots_eq n e q h1, ih r h2]
          simp [Pts.slots]
      show ps.flatMap (ptSlots n) = (Pt.tup ps).slots
      rw [go es ps hp]
      simp [Pt.slots]
    | _ => cases h
/-- a block's context -/
theorem GX.blk (G : GX run gl cc k sc raw X) {scope : Scope} {own : List (Str × Nat)} (ok : BlkOk cc.N sc scope own) (s : Shared) (H : Hp) (C : Addr) (cl : List (Str × Addr)) (fp : List Addr) :
    GX run gl cc k (relSc scope sc) scope (X.blk s H scope (compEnvC scope cl C X.env) fp) := by
  refine ⟨G.calm, G.N, G.nd, ?_, fun x h => ?_, fun x h => ⟨?_, ?_⟩, G.room, G.gls, fun f hf => ?_, G.bis, G.gcd, fun c f hc => ?_⟩
  · show relabel scope X.env = relSc scope sc
    have : relabel scope X.env = relS scope X.env.scope := rfl
    rw [this, G.scope]
    rfl
  · exact lookup_relS_keep (by decide) h
  · exact lookup_relS_keep (by decide) h
  · show (scope.names.lookup x == some .cell) = true
    rw [h]
    rfl
  · obtain ⟨a, fd, ps, h1, h2, h3, h4⟩ := (G.fns f hf).ex
    exact ⟨a, fd, ps, h1, h2, h3, h4⟩
  · obtain ⟨⟨C, fI, c2, cda, h1, h2, h3, h4⟩, h5⟩ := G.exs c f hc
    exact ⟨⟨C, fI, c2, cda, h1, h2, h3, h4⟩, h5⟩
theorem ite_or {α : Type} {b : Bool} {x y z : Option α} (h : (if b = true then x else y) = z) : (b = true ∧ x = z) ∨ (b = false ∧ y = z) := by
  cases b with
  | true => exact .inl ⟨rfl, h⟩
  | false => exact .inr ⟨rfl, h⟩
theorem biOf_eq {f : Str} {n : Nat} {b : Bi} (h : biOf f n = some b) : f = nmBi b := by
  unfold biOf at h
  iterate 13
    rcases ite_or h with ⟨q, h⟩ | ⟨_, h⟩
    · cases h; exact eq_of_beq (and2 q).1
  cases h
theorem mtOf_eq {f : Str} {n : Nat} {b : Mt} (h : mtOf f n = some b) : f = nmMt b := by
  unfold mtOf at h
  rcases ite_or h with ⟨q, h⟩ | ⟨_, h⟩
  · cases h; exact eq_of_beq (and2 q).1
  rcases ite_or h with ⟨q, h⟩ | ⟨_, h⟩
  · cases h; exact eq_of_beq (and2 q).1
  rcases ite_or h with ⟨q, h⟩ | ⟨_, h⟩
  · cases h; exact eq_of_beq (and2 q).1
  rcases ite_or h with ⟨q, h⟩ | ⟨_, h⟩
  · cases h; exact eq_of_beq (and2 q).1
  rcases ite_or h with ⟨q, h⟩ | ⟨_, h⟩
  · cases h; exact eq_of_beq (and2 q).1
  cases h
theorem tyOf_eq {f : Str} {b : Ty} (h : tyOf f = some b) : f = tyS b := by
  unfold tyOf at h
  rcases ite_or h with ⟨q, h⟩ | ⟨_, h⟩
  · cases h; exact eq_of_beq q
  rcases ite_or h with ⟨q, h⟩ | ⟨_, h⟩
  · cases h; exact eq_of_beq q
  rcases ite_or h with ⟨q, h⟩ | ⟨_, h⟩
  · cases h; exact eq_of_beq q
  rcases ite_or h with ⟨q, h⟩ | ⟨_, h⟩
  · cases h; exact eq_of_beq q
  rcases ite_or h with ⟨q, h⟩ | ⟨_, h⟩
  · cases h; exact eq_of_beq q
  cases h
/-- what is known of smaller trees -/
def IH (run : Str → List W → M W) (gl : Str → Option D) (cc : CC) (k n : Nat) : Prop := ∀ (sc raw : Scope) (X : Cx) (m : Nat) (e : Expr), GX run gl cc k sc raw X → Good3 run gl X e (compE cc n sc m e)
variable {n : Nat} {m : Nat} {pos : Pos}
theorem c_name (G : GX run gl cc k sc raw X) {x : Str} : Good3 run gl X (.Name x pos) (compE cc (n + 1) sc m (.Name x pos)) := by
  show Good3 run gl X (.Name x pos) (match slot? cc sc x with | some i => .var i | none => if glob? sc x && cc.gl x then .glob x else .bad)
  split
  · rename_i i hi
    obtain ⟨h1, h2, h3, h4⟩ := slot_ok hi
    rw [← G.N] at h1
    rw [← G.scope] at h2
    exact good_v rfl (fun _ => rfl) fun Wx tk => s_var h1 h2 h3 h4
  · split
    · rename_i h
      obtain ⟨h1, h2⟩ := and2 h
      obtain ⟨g1, g2⟩ := glob_ok h1
      cases e : gl x with
      | none =>
        refine fun Wx tk => ⟨pe_none (tG_bad fun ρ s => ?_), pt_none (tG_bad fun ρ s => ?_), fun tg _ => pi_none (tG_bad fun ρ s => ?_)⟩
        · show ((lift (gl x) s).andThen fun d => M.pure (W.d d)) = .bad
          rw [e]; rfl
        · show (((lift (gl x) s).andThen fun d => M.pure (W.d d)).andThen fun w => M.bind (peekS w) fun x => lift (truth x)) = .bad
          rw [e]; rfl
        · show (((lift (gl x) s).andThen fun d => M.pure (W.d d)).andThen fun w => M.bind (freeze w) fun x => lift (walkD x)) = .bad
          rw [e]; rfl
      | some d =>
        obtain ⟨u, v, q1, q2, q3⟩ := G.gls x d h2 e
        refine good_v (v := fun _ => M.pure (.d d)) ?_ (fun _ => rfl) fun Wx tk => s_glob (G.g g1) q1 q2 q3 g2
        show ofV (fun _ => M.bind (lift (gl x)) fun d => M.pure (.d d)) = _
        rw [e]
        rfl
    · exact good_bad
theorem c_con {c : Const} {j : Nat} : Good3 run gl X (.Constant c j pos) (compE cc (n + 1) sc m (.Constant c j pos)) := by
  show Good3 run gl X (.Constant c j pos) (match conD c with | some d => .con d | none => .bad)
  split
  · rename_i d h
    exact good_v rfl (fun _ => rfl) fun Wx tk => s_con h
  · exact good_bad
theorem c_tup (ih : IH run gl cc k n) (G : GX run gl cc k sc raw X) {es : List Expr} {j : Nat} : Good3 run gl X (.Tuple es j pos) (compE cc (n + 1) sc m (.Tuple es j pos)) := by
  show Good3 run gl X _ (if noStar es then (if m = 0 then .tup (compL (compE cc n sc 0) false es) else .tupw (es.map (compE cc n sc (m - 1)))) else .bad)
  split
  · rename_i h
    split
    · exact good_v rfl (fun _ => rfl) fun Wx tk => s_tup (pa_of tk (fun e => ih sc raw X 0 e G) lit_comp h)
    · exact good_v rfl (fun _ => rfl) fun Wx tk => s_tupw (s_args (pes_of tk (fun e _ => ih sc raw X (m - 1) e G) h))
  · exact good_bad
theorem c_list (ih : IH run gl cc k n) (G : GX run gl cc k sc raw X) {es : List Expr} : Good3 run gl X (.List es pos) (compE cc (n + 1) sc m (.List es pos)) := by
  show Good3 run gl X _ (if noStar es then (if m ≤ 1 then .list (m != 0) (compL (compE cc n sc 0) false es) else .listw (es.map (compE cc n sc (m - 1)))) else .bad)
  split
  · rename_i h
    split
    · exact good_v rfl (fun _ => rfl) fun Wx tk => s_list (pa_of tk (fun e => ih sc raw X 0 e G) lit_comp h)
    · exact good_v rfl (fun _ => rfl) fun Wx tk => s_listw (s_args (pes_of tk (fun e _ => ih sc raw X (m - 1) e G) h))
  · exact good_bad
theorem c_bin (ih : IH run gl cc k n) (G : GX run gl cc k sc raw X) {a b : Expr} {op : Operator} : Good3 run gl X (.BinOp a op b pos) (compE cc (n + 1) sc m (.BinOp a op b pos)) :=
  good_v (E := .bin (m != 0) op (compE cc n sc 0 a) (compE cc n sc 0 b)) rfl (fun _ => rfl) fun Wx tk => s_bin (ih sc raw X 0 a G Wx tk).1 (ih sc raw X 0 b G Wx tk).1
theorem GX.units (G : GX run gl cc k sc raw X) : X.A.units + 64 < cLine := G.room.units
theorem isNone_eq {b : Expr} (h : isNone b = true) : ∃ j p, b = .Constant .none j p := by
  cases b with
  | Constant k j p => cases k <;> first | exact ⟨j, p, rfl⟩ | cases h
  | _ => cases h
theorem c_cmp (ih : IH run gl cc k n) (G : GX run gl cc k sc raw X) {a b : Expr} {op : CmpOp} : Good3 run gl X (.Compare a [op] [b] pos) (compE cc (n + 1) sc m (.Compare a [op] [b] pos)) := by
  show Good3 run gl X _ (if isNone b && (op == .Is || op == .IsNot) then .isN (op == .IsNot) (compE cc n sc 0 a) else if behindInMarks op b then .bad else .cmp op (compE cc n sc 0 a) (compE cc n sc 0 b))
  split
  · rename_i h
    obtain ⟨h1, h2⟩ := and2 h
    obtain ⟨j, p, rfl⟩ := isNone_eq h1
    have eop : op = (if (op == .IsNot) = true then .IsNot else .Is) := by
      rcases (Bool.or_eq_true _ _).mp h2 with e | e
      · have := eq_of_beq e
        subst this
        rfl
      · have := eq_of_beq e
        subst this
        rfl
    have q : ∀ neg : Bool, Good3 run gl X (.Compare a [if neg = true then .IsNot else .Is] [.Constant .none j p] pos) (.isN neg (compE cc n sc 0 a)) := fun neg =>
      fun Wx tk => ⟨s_isN (neg := neg) (ih sc raw X 0 a G Wx tk).1, s_isNT (neg := neg) (ih sc raw X 0 a G Wx tk).1, fun tg _ => s_walk (s_isN (neg := neg) (ih sc raw X 0 a G Wx tk).1)⟩
    have q2 := q (op == .IsNot)
    rw [← eop] at q2
    exact q2
  · split
    · exact good_bad
    · rename_i h
      have h : behindInMarks op b = false := by simpa using h
      intro Wx tk
      have q := s_cmp (op := op) (pos := pos) G.units (ih sc raw X 0 a G Wx tk).1 (ih sc raw X 0 b G Wx tk).1 h
      exact ⟨q, s_cmpT G.units (ih sc raw X 0 a G Wx tk).1 (ih sc raw X 0 b G Wx tk).1 h, fun tg _ => s_walk q⟩
theorem c_cmp2 (ih : IH run gl cc k n) (G : GX run gl cc k sc raw X) {a b d : Expr} {op op2 : CmpOp} : Good3 run gl X (.Compare a [op, op2] [b, d] pos) (compE cc (n + 1) sc m (.Compare a [op, op2] [b, d] pos)) := by
  show Good3 run gl X _ (if behindInMarks op2 d then .bad else .cmp2 op op2 (compE cc n sc 0 a) (compE cc n sc 0 b) (compE cc n sc 0 d))
  split
  · exact good_bad
  · rename_i h
    have h : behindInMarks op2 d = false := by simpa using h
    intro Wx tk
    have q := s_cmp2 (op := op) (op2 := op2) (pos := pos) G.units (ih sc raw X 0 a G Wx tk).1 (ih sc raw X 0 b G Wx tk).1 (ih sc raw X 0 d G Wx tk).1 h
    exact ⟨q, s_cmp2T G.units (ih sc raw X 0 a G Wx tk).1 (ih sc raw X 0 b G Wx tk).1 (ih sc raw X 0 d G Wx tk).1 h, fun tg _ => s_walk q⟩
theorem c_un (ih : IH run gl cc k n) (G : GX run gl cc k sc raw X) {a : Expr} {op : UnaryOp} : Good3 run gl X (.UnaryOp op a pos) (compE cc (n + 1) sc m (.UnaryOp op a pos)) := by
  have A := ih sc raw X 0 a G
  cases op with
  | Not => exact fun Wx tk => ⟨s_not (A Wx tk).1, s_notT (A Wx tk).2.1, fun tg _ => pi_none (tG_bad fun _ _ => rfl)⟩
  | USub => exact good_v (E := .un .USub (compE cc n sc 0 a)) rfl (fun _ => rfl) fun Wx tk => s_un (A Wx tk).1
  | Invert => exact good_v (E := .un .Invert (compE cc n sc 0 a)) rfl (fun _ => rfl) fun Wx tk => s_un (A Wx tk).1
  | UAdd => exact good_v (E := .un .UAdd (compE cc n sc 0 a)) rfl (fun _ => rfl) fun Wx tk => s_un (A Wx tk).1
theorem c_bool (ih : IH run gl cc k n) (G : GX run gl cc k sc raw X) {es : List Expr} {op : BoolOp} : Good3 run gl X (.BoolOp op es pos) (compE cc (n + 1) sc m (.BoolOp op es pos)) := by
  have A : ∀ e ∈ es, Good3 run gl X e (compE cc n sc 0 e) := fun e _ => ih sc raw X 0 e G
  cases op with
  | And =>
    show Good3 run gl X _ (if decide (2 ≤ es.length) then andE (es.map (compE cc n sc 0)) else .bad)
    split
    · rename_i hl
      have hl := of_decide_eq_true hl
      intro Wx tk
      obtain ⟨h1, h2⟩ := and_list (pos := pos) tk (by intro z; subst z; simp at hl) A
      refine ⟨h1, h2.pt, fun tg _ => ?_⟩
      match es, hl with
      | e :: e2 :: es, _ => exact pi_none (tG_bad fun _ _ => rfl)
    · exact good_bad
  | Or =>
    show Good3 run gl X _ (if decide (2 ≤ es.length) then orE (es.map (compE cc n sc 0)) else .bad)
    split
    · rename_i hl
      have hl := of_decide_eq_true hl
      intro Wx tk
      obtain ⟨h1, h2⟩ := or_list (pos := pos) tk (by intro z; subst z; simp at hl) A
      refine ⟨h1, h2.pt, fun tg _ => ?_⟩
      match es, hl with
      | e :: e2 :: es, _ => exact pi_none (tG_bad fun _ _ => rfl)
    · exact good_bad
theorem c_ite (ih : IH run gl cc k n) (G : GX run gl cc k sc raw X) {t a b : Expr} : Good3 run gl X (.IfExp t a b pos) (compE cc (n + 1) sc m (.IfExp t a b pos)) := fun Wx tk => by
  have q := s_ite (pos := pos) (ih sc raw X 0 t G Wx tk).2.1 (ih sc raw X m a G Wx tk).1 (ih sc raw X m b G Wx tk).1
  exact ⟨q, s_iteT (ih sc raw X 0 t G Wx tk).2.1 (ih sc raw X m a G Wx tk).2.1 (ih sc raw X m b G Wx tk).2.1, fun tg _ => s_walk q⟩
theorem c_fs (ih : IH run gl cc k n) (G : GX run gl cc k sc raw X) {es : List Expr} : Good3 run gl X (.JoinedStr es pos) (compE cc (n + 1) sc m (.JoinedStr es pos)) := by
  show Good3 run gl X _ (if noStar es && decide (2 ≤ es.length) then .fs (es.map (compE cc n sc 0)) else .bad)
  split
  · rename_i h
    obtain ⟨h1, h2⟩ := and2 h
    exact good_v rfl (fun _ => rfl) fun Wx tk => s_fs (pes_of tk (fun e _ => ih sc raw X 0 e G) h1) (of_decide_eq_true h2)
  · exact good_bad
theorem c_fmt (ih : IH run gl cc k n) (G : GX run gl cc k sc raw X) {a : Expr} {cv : Int} {sp : Option Expr} : Good3 run gl X (.FormattedValue a cv sp pos) (compE cc (n + 1) sc m (.FormattedValue a cv sp pos)) := by
  have A := ih sc raw X 0 a G
  show Good3 run gl X _ (if decide (cv = -1) && sp.isNone then .fmt (compE cc n sc 0 a) else .bad)
  split
  · rename_i h
    obtain ⟨h1, h2⟩ := and2 h
    have h1 := of_decide_eq_true h1
    subst h1
    cases sp with
    | some _ => cases h2
    | none => exact good_v rfl (fun _ => rfl) fun Wx tk => s_fmt (A Wx tk).1
  · exact good_bad
theorem c_idx (ih : IH run gl cc k n) (G : GX run gl cc k sc raw X) {a i : Expr} (h : isSlice i = false) (e : compE cc (n + 1) sc m (.Subscript a i pos) = .idx (compE cc n sc 0 a) (compE cc n sc 0 i)) : Good3 run gl X (.Subscript a i pos) (compE cc (n + 1) sc m (.Subscript a i pos)) := by
  rw [e]
  exact good_v rfl (fun _ => rfl) fun Wx tk => s_idx (ih sc raw X 0 a G Wx tk).1 (ih sc raw X 0 i G Wx tk).1 h
theorem part_sem {Wx : WX} (tk : Takes X Wx) (ih : IH run gl cc k n) (G : GX run gl cc k sc raw X) (lo : Option Expr) :
    PO X lo (oG X Wx fun ρ => if lo.isSome = true then M.bind ((sem run gl (match lo with | none => E.nil | some e => compE cc n sc 0 e)).v ρ) partW else M.pure none) := by
  cases lo with
  | none => exact s_part0
  | some e => exact s_part (ih sc raw X 0 e G Wx tk).1
theorem c_sub (ih : IH run gl cc k n) (G : GX run gl cc k sc raw X) {a i : Expr} : Good3 run gl X (.Subscript a i pos) (compE cc (n + 1) sc m (.Subscript a i pos)) := by
  cases i with
  | Slice lo hi st p2 =>
    cases st with
    | none =>
      exact good_v (E := .slice (m != 0) lo.isSome hi.isSome (compE cc n sc 0 a) (match lo with | none => .nil | some e => compE cc n sc 0 e) (match hi with | none => .nil | some e => compE cc n sc 0 e)) rfl (fun _ => rfl) fun Wx tk => s_slice (ih sc raw X 0 a G Wx tk).1 (part_sem tk ih G lo) (part_sem tk ih G hi)
    | some s =>
      show Good3 run gl X _ (if isM1 s && lo.isNone && hi.isNone then .rev (compE cc n sc 0 a) else .bad)
      split
      · rename_i h
        obtain ⟨h1, h2, h3⟩ := and3 h
        cases lo with
        | some _ => cases h2
        | none =>
          cases hi with
          | some _ => cases h3
          | none =>
            cases s with
            | UnaryOp op b p3 =>
              cases op with
              | USub =>
                cases b with
                | Constant c j p4 =>
                  cases c with
                  | int i =>
                    have e : i = 1 := of_decide_eq_true h1
                    subst e
                    exact good_v rfl (fun _ => rfl) fun Wx tk => s_rev (ih sc raw X 0 a G Wx tk).1
                  | _ => cases h1
                | _ => cases h1
              | _ => cases h1
            | _ => cases h1
      · exact good_bad
  | _ => exact c_idx ih G rfl rfl
theorem own_ok {scope : Scope} (h : blkC cc.N sc scope (ownOf cc scope) = true) : BlkOk cc.N sc scope (ownOf cc scope) := blkOk_by h
theorem c_lc (ih : IH run gl cc k n) (G : GX run gl cc k sc raw X) {elt : Expr} {gens : List Comprehension} {scope : Scope} : Good3 run gl X (.ListComp elt gens scope pos) (compE cc (n + 1) sc m (.ListComp elt gens scope pos)) := by
  match gens with
  | [] => exact good_bad
  | ⟨_, _, _, _⟩ :: ⟨_, _, _, _⟩ :: _ => exact good_bad
  | [⟨tg, it, cs, isa⟩] =>
    show Good3 run gl X _ (match compPt cc scope 5 tg with
        | some p => if L2.blkC cc.N sc scope (ownOf cc scope) && walkOk tg it && decide (cs.length ≤ 1) && decide (isa = 0) && (ptSlots 5 p).all fun i => ((ownOf cc scope).map (·.2)).contains i then
            (if m ≤ 1 then .lc (m != 0) (compE cc n (relSc scope sc) 0 elt) p (compE cc n sc 0 it) (cs.map (compE cc n (relSc scope sc) 0)) ((ownOf cc scope).map (·.2))
            else .lcw (compE cc n (relSc scope sc) (m - 1) elt) p (compE cc n sc 0 it) (cs.map (compE cc n (relSc scope sc) 0)) ((ownOf cc scope).map (·.2))) else .bad
        | none => .bad)
    split
    · rename_i p hp
      split
      · rename_i h
        obtain ⟨h, h5⟩ := and2 h
        obtain ⟨h, h4⟩ := and2 h
        obtain ⟨h1, h2, h3⟩ := and3 h
        have h4 := of_decide_eq_true h4
        subst h4
        have ok := own_ok h1
        have okX : BlkOk X.N X.env.scope scope (ownOf cc scope) := by
          rw [G.N, G.scope]
          exact ok
        have hs : ∀ i ∈ p.slots, i ∈ (ownOf cc scope).map (·.2) := fun i hi => by
          rw [← slots_eq 5 tg p hp] at hi
          have := List.all_eq_true.mp h5 i hi
          simpa using this
        have hf : ∀ x, foldedSetIterable it X.env x = pure x := fun x => by
          cases it <;> first | rfl | cases h2
        have ht : ∀ (s : Shared) (H : Hp) (C : Addr) (cl : List (Str × Addr)) (fp : List Addr), PTs (X.blk s H scope (compEnvC scope cl C X.env) fp) cs (tG X.K X.mg W0 (smT (sems run gl (cs.map (compE cc n (relSc scope sc) 0)))) RB) := fun s H C cl fp => by
          refine s_tests ?_
          match cs, h3 with
          | [], _ => exact .inl ⟨rfl, rfl⟩
          | [f], _ => exact .inr ⟨f, _, rfl, rfl, (ih _ _ _ 0 f (G.blk ok s H C cl fp) W0 takes0).2.1⟩
          | _ :: _ :: _, h => simp at h
        split
        · refine good_v rfl (fun _ => rfl) fun Wx tk => ?_
          exact pe_wk (s_lc (m := m != 0) (cs := sems run gl (cs.map (compE cc n (relSc scope sc) 0))) (me := sem run gl (compE cc n (relSc scope sc) 0 elt)) G.calm (G.N ▸ G.nd) ((ih sc raw X 0 it G Wx tk).2.2 tg h2) okX hs hf (fun s H C cl fp => pt_ok (G.blk ok s H C cl fp) 5 tg p hp) ht
            (fun s H C cl fp => (ih _ _ _ 0 elt (G.blk ok s H C cl fp) W0 takes0).1)) (lc_read (m := m != 0) hs)
        · refine good_v rfl (fun _ => rfl) fun Wx tk => ?_
          exact pe_wk (s_lc (m := false) (cs := sems run gl (cs.map (compE cc n (relSc scope sc) 0))) (me := sem run gl (compE cc n (relSc scope sc) (m - 1) elt)) G.calm (G.N ▸ G.nd) ((ih sc raw X 0 it G Wx tk).2.2 tg h2) okX hs hf (fun s H C cl fp => pt_ok (G.blk ok s H C cl fp) 5 tg p hp) ht
            (fun s H C cl fp => (ih _ _ _ (m - 1) elt (G.blk ok s H C cl fp) W0 takes0).1)) (lc_readW hs)
      · exact good_bad
    · exact good_bad
end
end Cr

namespace Cr
open PySem L2
section
variable {run : Str → List W → M W} {gl : Str → Option D} {cc : CC} {k n : Nat} {sc raw : Scope} {X : Cx} {m : Nat} {pos : Pos}
theorem bi_pair {f : Bi} {x : D} {k : Nat} : True := trivial
/-- where a builtin is walked only -/
theorem good_i {e : Expr} {E : E} {i : Env → M (List D)} (hE : sem run gl E = { ofV (fun _ => M.bad) with i := i }) (h : ∀ Wx, Takes X Wx → ∀ tg, walkOk tg e = true → PI X tg e (iG X Wx i)) : Good3 run gl X e E := fun Wx tk => by
  rw [hE]
  exact ⟨pe_none (tG_bad fun _ _ => rfl), pt_none (tG_bad fun _ _ => rfl), h Wx tk⟩
theorem walk_tup {tg : Expr} {f : Str} {p : Pos} {es : List Expr} {kw : List Keyword} {cp : Pos} (h : walkOk tg (.Call (.Name f p) es kw cp) = true) (hf : f = "enumerate" ∨ f = "zip") : ∃ el kk tp, tg = .Tuple el kk tp := by
  have h : (isTupE tg || !(f == ("enumerate" : Str) || f == ("zip" : Str))) = true := h
  have z : (f == ("enumerate" : Str) || f == ("zip" : Str)) = true := by
    rcases hf with e | e
    · rw [e]; rfl
    · rw [e]; rfl
  rw [z] at h
  cases tg with
  | Tuple el kk tp => exact ⟨el, kk, tp, rfl⟩
  | _ => cases h
theorem c_len (ih : IH run gl cc k n) (G : GX run gl cc k sc raw X) {a : Expr} {p : Pos} (gf : Gl X "len") (hm : X.mg "len" = none) (plain : Good3 run gl X (.Call (.Name "len" p) [a] [] pos) (.len (compE cc n sc 0 a))) :
    Good3 run gl X (.Call (.Name "len" p) [a] [] pos) (match [a] with
      | [.SetComp elt [⟨tg, it, cs, isa⟩] scope _] => match compPt cc scope 5 tg with
        | some p => if L2.blkC cc.N sc scope (ownOf cc scope) && walkOk tg it && decide (cs.length ≤ 1) && decide (isa = 0) && (ptSlots 5 p).all fun i => ((ownOf cc scope).map (·.2)).contains i then
            .lenSC (compE cc n (relSc scope sc) 0 elt) p (compE cc n sc 0 it) (cs.map (compE cc n (relSc scope sc) 0)) ((ownOf cc scope).map (·.2)) else .bad
        | none => .bad
      | [a] => .len (compE cc n sc 0 a)
      | _ => .bad) := by
  cases a with
  | SetComp elt gens scope sp =>
    match gens with
    | [] => exact plain
    | ⟨_, _, _, _⟩ :: ⟨_, _, _, _⟩ :: _ => exact plain
    | [⟨tg, it, cs, isa⟩] =>
      show Good3 run gl X _ (match compPt cc scope 5 tg with
        | some p => if L2.blkC cc.N sc scope (ownOf cc scope) && walkOk tg it && decide (cs.length ≤ 1) && decide (isa = 0) && (ptSlots 5 p).all fun i => ((ownOf cc scope).map (·.2)).contains i then
            .lenSC (compE cc n (relSc scope sc) 0 elt) p (compE cc n sc 0 it) (cs.map (compE cc n (relSc scope sc) 0)) ((ownOf cc scope).map (·.2)) else .bad
        | none => .bad)
      split
      · rename_i p hp
        split
        · rename_i h
          obtain ⟨h, h5⟩ := and2 h
          obtain ⟨h, h4⟩ := and2 h
          obtain ⟨h1, h2, h3⟩ := and3 h
          have h4 := of_decide_eq_true h4
          subst h4
          have ok := own_ok h1
          have okX : BlkOk X.N X.env.scope scope (ownOf cc scope) := by
            rw [G.N, G.scope]
            exact ok
          have hs : ∀ i ∈ p.slots, i ∈ (ownOf cc scope).map (·.2) := fun i hi => by
            rw [← slots_eq 5 tg p hp] at hi
            have := List.all_eq_true.mp h5 i hi
            simpa using this
          have hf : ∀ x, foldedSetIterable it X.env x = pure x := fun x => by
            cases it <;> first | rfl | cases h2
          refine good_v rfl (fun _ => rfl) fun Wx tk => ?_
          refine s_lenSC (cs := sems run gl (cs.map (compE cc n (relSc scope sc) 0))) (me := sem run gl (compE cc n (relSc scope sc) 0 elt)) gf hm G.calm (G.N ▸ G.nd) ((ih sc raw X 0 it G Wx tk).2.2 tg h2) okX hs hf (fun s H C cl fp => pt_ok (G.blk ok s H C cl fp) 5 tg p hp) (fun s H C cl fp => s_tests ?_)
            (fun s H C cl fp => (ih _ _ _ 0 elt (G.blk ok s H C cl fp) W0 takes0).1)
          match cs, h3 with
          | [], _ => exact .inl ⟨rfl, rfl⟩
          | [f], _ => exact .inr ⟨f, _, rfl, rfl, (ih _ _ _ 0 f (G.blk ok s H C cl fp) W0 takes0).2.1⟩
          | _ :: _ :: _, h => simp at h
        · exact good_bad
      · exact good_bad
  | _ => exact plain
theorem c_call (ih : IH run gl cc k n) (G : GX run gl cc k sc raw X) {fn : Expr} {es : List Expr} {kw : List Keyword} : Good3 run gl X (.Call fn es kw pos) (compE cc (n + 1) sc m (.Call fn es kw pos)) := by
  cases kw with
  | cons _ _ => exact good_bad
  | nil =>
    cases fn with
    | Name f p =>
      show Good3 run gl X _ (if !(glob? sc f && noStar es) then .bad
          else if cc.fn f then .call (m != 0 || cc.im f) f (compL (compE cc n sc 0) false es)
          else if f == "range" then (if decide (es.length ≤ 3) then .range (es.map (compE cc n sc 0)) else .bad)
          else if f == "isinstance" then match es with
            | [a, t] => match tyE cc sc t with
              | some t => .isI (compE cc n sc 0 a) t
              | none => .bad
            | _ => .bad
          else if f == "enumerate" then match es with
            | [a] => .enum (compE cc n sc 0 a)
            | _ => .bad
          else if f == "zip" then match es with
            | [a, b] => .zip (compE cc n sc 0 a) (compE cc n sc 0 b)
            | _ => .bad
          else if f == "gcd" then match es with
            | [a, b] => if cc.gcd then .gcd (compE cc n sc 0 a) (compE cc n sc 0 b) else .bad
            | _ => .bad
          else if f == "len" then match es with
            | [.SetComp elt [⟨tg, it, cs, isa⟩] scope _] => match compPt cc scope 5 tg with
              | some p => if L2.blkC cc.N sc scope (ownOf cc scope) && walkOk tg it && decide (cs.length ≤ 1) && decide (isa = 0) && (ptSlots 5 p).all fun i => ((ownOf cc scope).map (·.2)).contains i then
                  .lenSC (compE cc n (relSc scope sc) 0 elt) p (compE cc n sc 0 it) (cs.map (compE cc n (relSc scope sc) 0)) ((ownOf cc scope).map (·.2)) else .bad
              | none => .bad
            | [a] => .len (compE cc n sc 0 a)
            | _ => .bad
          else match biOf f es.length with
            | some b => .bi (m != 0) b (es.map (compE cc n sc 0))
            | none => .bad)
      split
      · exact good_bad
      · rename_i h
        have h : (glob? sc f && noStar es) = true := by simpa using h
        obtain ⟨h1, h2⟩ := and2 h
        obtain ⟨g1, g2⟩ := glob_ok h1
        have gf := G.g g1
        have A : ∀ e ∈ es, Good3 run gl X e (compE cc n sc 0 e) := fun e _ => ih sc raw X 0 e G
        split
        · rename_i hf
          have F := G.fns f hf
          have h0 : es = [] → sems run gl (compL (compE cc n sc 0) false es) = [] := fun e => by subst e; rfl
          have pa := fun (Wx : WX) (tk : Takes X Wx) => pa_of (f := compE cc n sc 0) tk (fun e => ih sc raw X 0 e G) lit_comp h2
          cases hm : (m != 0 || cc.im f) with
          | true => exact good_v rfl (fun _ => rfl) fun Wx tk => s_callM tk G.room gf F g2 (pa Wx tk) h2 h0
          | false => exact good_v rfl (fun _ => rfl) fun Wx tk => s_call tk G.room gf F g2 (pa Wx tk) h2 h0
        · rename_i hf
          have hf : cc.fn f = false := by simpa using hf
          split
          · rename_i e
            have e : f = "range" := eq_of_beq e
            subst e
            split
            · rename_i hl
              exact good_i rfl fun Wx tk tg _ => s_range gf (G.bis _ hf (.inr (.inr (.inl rfl)))) (of_decide_eq_true hl) (pes_of tk A h2)
            · exact good_bad
          · split
            · rename_i e
              have e : f = "isinstance" := eq_of_beq e
              subst e
              match es, h2, A with
              | [a, t], h2, A =>
                show Good3 run gl X _ (match tyE cc sc t with
                  | some t => .isI (compE cc n sc 0 a) t
                  | none => .bad)
                split
                · rename_i ty hty
                  cases t with
                  | Name x p2 =>
                    have hty : (if (glob? sc x && !cc.fn x) = true then tyOf x else none) = some ty := hty
                    by_cases hx : (glob? sc x && !cc.fn x) = true
                    · rw [if_pos hx] at hty
                      obtain ⟨hx1, hx2⟩ := and2 hx
                      have hx2 : cc.fn x = false := by simpa using hx2
                      have ex := tyOf_eq hty
                      subst ex
                      have hs : isStar a = false := by
                        have h2 : (!isStar a && (!isStar (Expr.Name (tyS ty) p2) && true)) = true := h2
                        simpa using (and2 h2).1
                      exact good_v rfl (fun _ => rfl) fun Wx tk => s_isI gf (G.bis _ hf (.inr (.inr (.inr (.inr (.inr rfl)))))) (G.g (glob_ok hx1).1) (G.bis _ hx2 (.inr (.inl ⟨ty, rfl⟩))) hs (A a (by simp) Wx tk).1
                    · rw [if_neg hx] at hty
                      cases hty
                  | _ => cases hty
                · exact good_bad
              | [], _, _ => exact good_bad
              | [_], _, _ => exact good_bad
              | _ :: _ :: _ :: _, _, _ => exact good_bad
            · split
              · rename_i e
                have e : f = "enumerate" := eq_of_beq e
                subst e
                match es, h2, A with
                | [a], h2, A =>
                  have hs : isStar a = false := by
                    have h2 : (!isStar a && true) = true := h2
                    simpa using (and2 h2).1
                  refine good_i rfl fun Wx tk tg hw => ?_
                  obtain ⟨el, kk, tp, rfl⟩ := walk_tup hw (.inl rfl)
                  exact s_enum gf (G.bis _ hf (.inr (.inr (.inr (.inl rfl))))) hs (A a (by simp) Wx tk).1
                | [], _, _ => exact good_bad
                | _ :: _ :: _, _, _ => exact good_bad
              · split
                · rename_i e
                  have e : f = "zip" := eq_of_beq e
                  subst e
                  match es, h2, A with
                  | [a, b], h2, A =>
                    have h2 : (!isStar a && (!isStar b && true)) = true := h2
                    obtain ⟨q1, q2⟩ := and2 h2
                    obtain ⟨q2, _⟩ := and2 q2
                    have q1 : isStar a = false := by simpa using q1
                    have q2 : isStar b = false := by simpa using q2
                    refine good_i rfl fun Wx tk tg hw => ?_
                    obtain ⟨el, kk, tp, rfl⟩ := walk_tup hw (.inr rfl)
                    exact s_zip gf (G.bis _ hf (.inr (.inr (.inr (.inr (.inl rfl)))))) q1 q2 (A a (by simp) Wx tk).1 (A b (by simp) Wx tk).1
                  | [], _, _ => exact good_bad
                  | [_], _, _ => exact good_bad
                  | _ :: _ :: _ :: _, _, _ => exact good_bad
                · split
                  · rename_i e
                    have e : f = "gcd" := eq_of_beq e
                    subst e
                    match es, h2, A with
                    | [a, b], h2, A =>
                      have h2 : (!isStar a && (!isStar b && true)) = true := h2
                      obtain ⟨q1, q2⟩ := and2 h2
                      obtain ⟨q2, _⟩ := and2 q2
                      have q1 : isStar a = false := by simpa using q1
                      have q2 : isStar b = false := by simpa using q2
                      show Good3 run gl X _ (if cc.gcd then .gcd (compE cc n sc 0 a) (compE cc n sc 0 b) else .bad)
                      split
                      · rename_i hgc
                        exact good_v rfl (fun _ => rfl) fun Wx tk => s_gcd gf (G.gcd hgc) q1 q2 (A a (by simp) Wx tk).1 (A b (by simp) Wx tk).1
                      · exact good_bad
                    | [], _, _ => exact good_bad
                    | [_], _, _ => exact good_bad
                    | _ :: _ :: _ :: _, _, _ => exact good_bad
                  · split
                    · rename_i e
                      have e : f = "len" := eq_of_beq e
                      subst e
                      have hm := G.bis "len" hf (.inl ⟨.len, rfl⟩)
                      match es, h2, A with
                      | [a], h2, A =>
                        have hs : isStar a = false := by
                          have h2 : (!isStar a && true) = true := h2
                          simpa using (and2 h2).1
                        have plain : Good3 run gl X (.Call (.Name "len" p) [a] [] pos) (.len (compE cc n sc 0 a)) := good_v rfl (fun _ => rfl) fun Wx tk => s_len gf hm hs (A a (by simp) Wx tk).1
                        exact c_len ih G gf hm plain
                      | [], _, _ => exact good_bad
                      | x :: y :: r, _, _ =>
                        show Good3 run gl X (.Call (.Name "len" p) (x :: y :: r) [] pos) (match x :: y :: r with
                          | [.SetComp elt [⟨tg, it, cs, isa⟩] scope _] => match compPt cc scope 5 tg with
                            | some p => if L2.blkC cc.N sc scope (ownOf cc scope) && walkOk tg it && decide (cs.length ≤ 1) && decide (isa = 0) && (ptSlots 5 p).all fun i => ((ownOf cc scope).map (·.2)).contains i then
                                .lenSC (compE cc n (relSc scope sc) 0 elt) p (compE cc n sc 0 it) (cs.map (compE cc n (relSc scope sc) 0)) ((ownOf cc scope).map (·.2)) else .bad
                            | none => .bad
                          | [a] => .len (compE cc n sc 0 a)
                          | _ => .bad)
                        split
                        · rename_i h; cases h
                        · rename_i h; cases h
                        · exact good_bad
                    · split
                      · rename_i b hb
                        have e := biOf_eq hb
                        subst e
                        have ne : es ≠ [] := by
                          intro z
                          subst z
                          unfold biOf at hb
                          simp at hb
                        exact good_v rfl (fun _ => rfl) fun Wx tk => s_bi G.calm gf (G.bis _ hf (.inl ⟨b, rfl⟩)) ne (pes_of tk A h2)
                      · exact good_bad
    | Attribute o f ap =>
      show Good3 run gl X _ (if !(noStar es && ap.endLine == pos.line && !isSuper o) then .bad
          else match es with
            | [a] => if f == "append" then (if itemMode cc o = 0 then .app (compE cc n sc 0 o) (compE cc n sc 0 a) else .appw (compE cc n sc 0 o) (compE cc n sc (itemMode cc o) a))
              else if f == "extend" then .ext (compE cc n sc 0 o) (compE cc n sc 0 a) else match mtOf f 1 with
              | some b => .mt (m != 0) b (compE cc n sc 0 o) [compE cc n sc 0 a]
              | none => .bad
            | _ => .bad)
      split
      · exact good_bad
      · rename_i h
        have h : (noStar es && ap.endLine == pos.line && !isSuper o) = true := by simpa using h
        obtain ⟨h1, h2, h3⟩ := and3 h
        have h3 : isSuper o = false := by simpa using h3
        have O := ih sc raw X 0 o G
        match es, h1 with
        | [], _ => exact good_bad
        | _ :: _ :: _, _ => exact good_bad
        | [a], h1 =>
          have A := ih sc raw X 0 a G
          have hs : isStar a = false := by
            have h1 : (!isStar a && true) = true := h1
            simpa using (and2 h1).1
          show Good3 run gl X _ (if f == "append" then (if itemMode cc o = 0 then .app (compE cc n sc 0 o) (compE cc n sc 0 a) else .appw (compE cc n sc 0 o) (compE cc n sc (itemMode cc o) a))
              else if f == "extend" then .ext (compE cc n sc 0 o) (compE cc n sc 0 a) else match mtOf f 1 with
              | some b => .mt (m != 0) b (compE cc n sc 0 o) [compE cc n sc 0 a]
              | none => .bad)
          split
          · rename_i e
            have e : f = "append" := eq_of_beq e
            subst e
            split
            · exact good_v rfl (fun _ => rfl) fun Wx tk => s_app (O Wx tk).1 (A Wx tk).1 hs h3 h2
            · exact good_v rfl (fun _ => rfl) fun Wx tk => s_appw (O Wx tk).1 (ih sc raw X (itemMode cc o) a G Wx tk).1 hs h3 h2
          · split
            · rename_i e
              have e : f = "extend" := eq_of_beq e
              subst e
              exact good_v rfl (fun _ => rfl) fun Wx tk => s_ext (O Wx tk).1 (A Wx tk).1 hs h3 h2
            · split
              · rename_i b hb
                have e := mtOf_eq hb
                subst e
                exact good_v rfl (fun _ => rfl) fun Wx tk => s_mt (O Wx tk).1 (.cons hs (A Wx tk).1 .nil) (by simp) (by simp) h3 h2
              · exact good_bad
    | _ => exact good_bad
/-- THE THEOREM about expressions -/
theorem sound_e : ∀ n : Nat, IH run gl cc k n
  | 0 => fun sc raw X m e G => good_bad
  | n + 1 => fun sc raw X m e G => by
    have ih := sound_e n
    cases e with
    | Name x pos => exact c_name G
    | Constant c j pos => exact c_con
    | Tuple es j pos => exact c_tup ih G
    | List es pos => exact c_list ih G
    | BinOp a op b pos => exact c_bin ih G
    | UnaryOp op a pos => exact c_un ih G
    | Compare a ops bs pos =>
      match ops, bs with
      | [op], [b] => exact c_cmp ih G
      | [op, op2], [b, d] => exact c_cmp2 ih G
      | [], _ => exact good_bad
      | [_], [] => exact good_bad
      | [_], _ :: _ :: _ => exact good_bad
      | [_, _], [] => exact good_bad
      | [_, _], [_] => exact good_bad
      | [_, _], _ :: _ :: _ :: _ => exact good_bad
      | _ :: _ :: _ :: _, _ => exact good_bad
    | BoolOp op es pos => exact c_bool ih G
    | IfExp t a b pos => exact c_ite ih G
    | Subscript a i pos => exact c_sub ih G
    | JoinedStr es pos => exact c_fs ih G
    | FormattedValue a cv sp pos => exact c_fmt ih G
    | ListComp elt gens scope pos => exact c_lc ih G
    | Call fn es kw pos => exact c_call ih G
    | _ => exact good_bad
end
end Cr

namespace Cr
open PySem L2
/-- what a statement's outcome promises -/
def PostS (K : KF) (mg : Str → Option Value) (Wx : WX) (D : Ends) (c : Cfg) (H : Hp) (r : SR) : Prop := match r with
  | .ok .next ρ st => ∀ c' H' σ', c'.st = st → Ext c H c' H' → Ok K c' H' → ERel K c' ρ σ' → D.nx σ' H'
  | .ok .brk ρ st => ∀ c' H' σ', c'.st = st → Ext c H c' H' → Ok K c' H' → ERel K c' ρ σ' → D.bk σ' H'
  | .ok .cont ρ st => ∀ c' H' σ', c'.st = st → Ext c H c' H' → Ok K c' H' → ERel K c' ρ σ' → D.ct σ' H'
  | .ok (.ret w) _ st => ∀ c' H' v, c'.st = st → Ext c H c' H' → Ok K c' H' → WDen K c' w v → D.rt v H'
  | .ok (.exc x d) ρ st => ∀ c' H' σ' cls da, c'.st = st → Ext c H c' H' → Ok K c' H' → ERel K c' ρ σ' → XR K mg c'.B x d cls da → Wx cls da σ' H'
  | .bad => False
def sG (K : KF) (mg : Str → Option Value) (Wx : WX) (m : Env → Store → SR) : TS := fun D σ H => ∃ c ρ, Ok K c H ∧ ERel K c ρ σ ∧ PostS K mg Wx D c H (m ρ c.st)
section
variable {K : KF} {mg : Str → Option Value} {Wx : WX} {D : Ends} {c c1 : Cfg} {H H1 : Hp} {σ : L2.St} {ρ : Env}
theorem PostS.later {r : SR} (o : Ok K c1 H1) (e : Ext c H c1 H1) (h : PostS K mg Wx D c H r) : PostS K mg Wx D c1 H1 r := by
  cases r with
  | bad => exact h
  | ok f ρ st =>
    cases f with
    | next => exact fun c' H' σ' h1 h2 h3 h4 => h c' H' σ' h1 (Ext.trans o e h2) h3 h4
    | brk => exact fun c' H' σ' h1 h2 h3 h4 => h c' H' σ' h1 (Ext.trans o e h2) h3 h4
    | cont => exact fun c' H' σ' h1 h2 h3 h4 => h c' H' σ' h1 (Ext.trans o e h2) h3 h4
    | ret w => exact fun c' H' v h1 h2 h3 h4 => h c' H' v h1 (Ext.trans o e h2) h3 h4
    | exc x d => exact fun c' H' σ' cls da h1 h2 h3 h4 h5 => h c' H' σ' cls da h1 (Ext.trans o e h2) h3 h4 h5
theorem PostS.next {ρ' : Env} (o : Ok K c H) (e : ERel K c ρ' σ) (h : PostS K mg Wx D c H (.ok .next ρ' c.st)) : D.nx σ H := h c H σ rfl (Ext.refl c H) o e
/-- an expression ahead -/
theorem sG.exS {α β : Type} {m : Env → M α} {k : α → Store → SR} {R : Cfg → Hp → α → β → Prop} (o : Ok K c H) (e : ERel K c ρ σ) (h : PostS K mg Wx D c H (exS (m ρ c.st) ρ k)) :
    tG K mg Wx m R σ H fun b H1 => ∃ c1 a, Ext c H c1 H1 ∧ Ok K c1 H1 ∧ ERel K c1 ρ σ ∧ R c1 H1 a b ∧ PostS K mg Wx D c1 H1 (k a c1.st) := by
  refine ⟨c, ρ, o, e, ?_⟩
  generalize m ρ c.st = r at h
  cases r with
  | ok a st =>
    intro c' H' b h1 h2 h3 h4
    subst h1
    exact ⟨c', a, h2, h3, e.mono h2, h4, PostS.later h3 h2 h⟩
  | exc x d st => exact fun c' H' cls da h1 h2 h3 h4 => h c' H' σ cls da h1 h2 h3 (e.mono h2) h4
  | bad => exact h.elim
end
section
variable {X : Cx} {Wx : WX} {st : Stmt} {rest : List Stmt} {e : Expr} {pos : Pos} {v : Env → M W}
abbrev zG (X : Cx) (Wx : WX) (m : Env → Store → SR) : TS := sG X.K X.mg Wx m
theorem ps_wk {t t' : TS} (h : PS X st t) (w : ∀ D σ H, t' D σ H → t D σ H) : PS X st t' := ⟨fun pins s σ H D I q => h.run pins s σ H D I (w D σ H q)⟩
theorem pss_wk {st : List Stmt} {t t' : TS} (h : PSs X st t) (w : ∀ D σ H, t' D σ H → t D σ H) : PSs X st t' := ⟨fun pins s σ H D I q => h.run pins s σ H D I (w D σ H q)⟩
theorem ps_bad : PS X st (zG X Wx fun _ _ => .bad) := ⟨fun _ _ _ _ _ _ ⟨_, _, _, _, h⟩ => h.elim⟩
theorem s_pass : PS X (.Pass pos) (zG X Wx fun ρ s => .ok .next ρ s) := ps_wk ps_pass fun D σ H ⟨c, ρ, o, e, p⟩ => p.next o e
theorem s_brk : PS X (.Break pos) (zG X Wx fun ρ s => .ok .brk ρ s) := ps_wk ps_break fun D σ H ⟨c, ρ, o, e, p⟩ => p c H σ rfl (Ext.refl c H) o e
theorem s_cont : PS X (.Continue pos) (zG X Wx fun ρ s => .ok .cont ρ s) := ps_wk ps_continue fun D σ H ⟨c, ρ, o, e, p⟩ => p c H σ rfl (Ext.refl c H) o e
theorem swaps_no {tg : Option Expr} {l : Nat} {env : PySem.Env} (h : isComp e = false) : swapsWith e tg l env = pure false := by
  cases e <;> first | rfl | cases h
theorem s_expr (he : PE X e (vG X Wx v)) (hc : isComp e = false) : PS X (.Expr e pos) (zG X Wx fun ρ s => exS (v ρ s) ρ fun _ s => .ok .next ρ s) :=
  ps_wk (ps_expr he (swaps_no hc)) fun D σ H ⟨c, ρ, o, er, p⟩ => (sG.exS o er p).imp fun y H1 ⟨c1, w, e1, o1, er1, d1, p1⟩ => p1.next o1 er1
theorem s_ret (he : PE X e (vG X Wx v)) : PS X (.Return (some e) pos) (zG X Wx fun ρ s => exS (v ρ s) ρ fun w s => .ok (.ret w) ρ s) :=
  ps_wk (ps_ret he) fun D σ H ⟨c, ρ, o, er, p⟩ => (sG.exS o er p).imp fun y H1 ⟨c1, w, e1, o1, er1, d1, p1⟩ => p1 c1 H1 y rfl (Ext.refl c1 H1) o1 d1
theorem s_retN : PS X (.Return none pos) (zG X Wx fun ρ s => exS (M.pure (W.d .non) s) ρ fun w s => .ok (.ret w) ρ s) :=
  ps_wk ps_retN fun D σ H ⟨c, ρ, o, er, p⟩ => p c H .non rfl (Ext.refl c H) o .non
theorem s_if {a b : List Stmt} {t : Env → M Bool} {ma mb : Env → Store → SR} (he : PT X e (bG X Wx t)) (ha : PSs X a (zG X Wx ma)) (hb : PSs X b (zG X Wx mb)) :
    PS X (.If e a b pos) (zG X Wx fun ρ s => exS (t ρ s) ρ fun t s => if t then ma ρ s else mb ρ s) :=
  ps_wk (ps_if he ha hb) fun D σ H ⟨c, ρ, o, er, p⟩ => (sG.exS o er p).imp fun b H1 ⟨c1, w, e1, o1, er1, d1, p1⟩ => by
    have d1 : w = b := d1
    subst d1
    cases w with
    | true => exact ⟨c1, ρ, o1, er1, p1⟩
    | false => exact ⟨c1, ρ, o1, er1, p1⟩
theorem ss_nil : PSs X [] (zG X Wx fun ρ s => .ok .next ρ s) := pss_wk pss_nil fun D σ H ⟨c, ρ, o, e, p⟩ => p.next o e
def seqS (m k : Env → Store → SR) : Env → Store → SR := fun ρ s => match m ρ s with
  | .ok .next ρ s => k ρ s
  | r => r
theorem ss_cons {m k : Env → Store → SR} (h : PS X st (zG X Wx m)) (hr : PSs X rest (zG X Wx k)) : PSs X (st :: rest) (zG X Wx (seqS m k)) :=
  pss_wk (pss_cons h hr) fun D σ H ⟨c, ρ, o, e, p⟩ => by
    refine ⟨c, ρ, o, e, ?_⟩
    have p : PostS X.K X.mg Wx D c H (match m ρ c.st with | .ok .next ρ s => k ρ s | r => r) := p
    generalize m ρ c.st = r at p
    cases r with
    | bad => exact p
    | ok f ρ1 st =>
      cases f with
      | next =>
        intro c' H' σ' h1 h2 h3 h4
        subst h1
        exact ⟨c', ρ1, h3, h4, PostS.later h3 h2 p⟩
      | _ => exact p
theorem loop_step {r : SR} {k : Env → Store → SR} {D : Ends} {c : Cfg} {H : Hp} (p : PostS X.K X.mg Wx D c H (match r with
      | .ok .next ρ s => k ρ s
      | .ok .cont ρ s => k ρ s
      | .ok .brk ρ s => .ok .next ρ s
      | r => r)) : PostS X.K X.mg Wx { D with nx := fun σ' H' => ∃ c' ρ', Ext c H c' H' ∧ Ok X.K c' H' ∧ ERel X.K c' ρ' σ' ∧ PostS X.K X.mg Wx D c' H' (k ρ' c'.st), ct := fun σ' H' => ∃ c' ρ', Ext c H c' H' ∧ Ok X.K c' H' ∧ ERel X.K c' ρ' σ' ∧ PostS X.K X.mg Wx D c' H' (k ρ' c'.st), bk := D.nx } c H r := by
  cases r with
  | bad => exact p
  | ok f ρ1 st =>
    cases f with
    | next =>
      intro c' H' σ' h1 h2 h3 h4
      subst h1
      exact ⟨c', ρ1, h2, h3, h4, PostS.later h3 h2 p⟩
    | cont =>
      intro c' H' σ' h1 h2 h3 h4
      subst h1
      exact ⟨c', ρ1, h2, h3, h4, PostS.later h3 h2 p⟩
    | _ => exact p
theorem s_while {b : List Stmt} {t : Env → M Bool} {mb : Env → Store → SR} (po : PassesOwn (model X.prog X.w) X.A X.env X.xe) (he : PT X e (bG X Wx t)) (hb : PSs X b (zG X Wx mb)) (n : Nat) :
    PS X (.While e b [] pos) (zG X Wx (whileLoop t mb n)) :=
  ps_wk (ps_while po he hb) fun D σ H ⟨c, ρ, o, er, p⟩ => by
    refine ⟨fun m σ' H' => ∃ c' ρ', Ok X.K c' H' ∧ ERel X.K c' ρ' σ' ∧ PostS X.K X.mg Wx D c' H' (whileLoop t mb m ρ' c'.st), ⟨n, c, ρ, o, er, p⟩, ?_⟩
    rintro m σ1 H1 ⟨c1, ρ1, o1, er1, p1⟩
    cases m with
    | zero => exact p1.elim
    | succ m =>
      refine (sG.exS o1 er1 p1).imp fun b H2 ⟨c2, w, e2, o2, er2, d2, p2⟩ => ?_
      have d2 : w = b := d2
      subst d2
      cases w with
      | false => exact p2.next o2 er2
      | true =>
        refine (if_pos rfl : (if True then _ else _) = _) ▸ ?_
        exact ⟨_, fun σ' H' h => ⟨m, Nat.lt_succ_self _, h.elim fun c' h => h.elim fun ρ' h => ⟨c', ρ', h.2.1, h.2.2.1, h.2.2.2⟩⟩, c2, ρ1, o2, er2, loop_step p2⟩
end
end Cr
namespace Cr
open PySem L2
section
variable {X : Cx} {Wx : WX} {st : Stmt} {rest : List Stmt} {e : Expr} {pos : Pos} {v : Env → M W}
theorem s_for {tg : Expr} {b : List Stmt} {p : Pt} {mi : Env → M (List D)} {mb : Env → Store → SR} (po : PassesOwn (model X.prog X.w) X.A X.env X.xe) (hc : X.calm = true) (hi : PI X tg e (iG X Wx mi)) (hg : PG X tg (gP X.K p)) (hb : PSs X b (zG X Wx mb))
    (hf : ∀ x, foldedSetIterable e X.env x = pure x) : PS X (.For tg e b [] pos) (zG X Wx fun ρ s => exS (mi ρ s) ρ fun xs s => forLoop (forBody p mb) xs ρ s) :=
  ps_wk (ps_for po hc hi hg hb hf) fun D σ H ⟨c, ρ, o, er, q⟩ => (sG.exS o er q).imp fun J H1 ⟨c1, xs, e1, o1, er1, wk, p1⟩ => by
    refine ⟨fun i k σ' H' => i ≤ xs.length ∧ k = xs.length - i ∧ ∃ c' ρ', Ext c1 H1 c' H' ∧ Ok X.K c' H' ∧ ERel X.K c' ρ' σ' ∧ PostS X.K X.mg Wx D c' H' (forLoop (forBody p mb) (xs.drop i) ρ' c'.st),
      ⟨xs.length, Nat.zero_le _, rfl, c1, ρ, Ext.refl c1 H1, o1, er1, p1⟩, ?_⟩
    rintro i k σ1 H' ⟨hi, rfl, c', ρ', e', o', er', q'⟩
    have wi := wk i c' H' e' o'
    by_cases hlt : i < xs.length
    · have hx : xs[i]? = some xs[i] := List.getElem?_eq_getElem hlt
      obtain ⟨go, yl⟩ := wi.2 _ hx
      refine .inr ⟨go, fun σ2 H2 => i + 1 ≤ xs.length ∧ ∃ c2 ρ2, Ext c1 H1 c2 H2 ∧ Ok X.K c2 H2 ∧ ERel X.K c2 ρ2 σ2 ∧ PostS X.K X.mg Wx D c2 H2 (forLoop (forBody p mb) (xs.drop (i + 1)) ρ2 c2.st),
        fun σ2 H2 h => ⟨xs.length - (i + 1), by omega, h.1, rfl, h.2⟩, fun u H2 hy => ?_⟩
      obtain ⟨c2, s2, e2, o2, d2⟩ := yl u H2 hy
      have eD : xs.drop i = xs[i] :: xs.drop (i + 1) := List.drop_eq_getElem_cons hlt
      rw [eD] at q'
      generalize xs[i] = x at q' d2
      have q2 : PostS X.K X.mg Wx D c' H' (match forBody p mb x ρ' c'.st with
        | .ok .next ρ s => forLoop (forBody p mb) (xs.drop (i + 1)) ρ s
        | .ok .cont ρ s => forLoop (forBody p mb) (xs.drop (i + 1)) ρ s
        | .ok .brk ρ s => .ok .next ρ s
        | r => r) := q'
      have q3 := loop_step (q2.later o2 e2)
      have er2 : ERel X.K c2 ρ' σ1 := er'.mono e2
      have q3 : PostS X.K X.mg Wx _ c2 H2 (match bindPt p (.d x) ρ' with | some ρ => mb ρ c'.st | none => .bad) := q3
      cases hb : bindPt p (.d x) ρ' with
      | none =>
        rw [hb] at q3
        exact q3.elim
      | some ρ2 =>
        rw [hb] at q3
        refine ⟨c2, ρ', .d x, ρ2, o2, er2, d2, hb, fun σ2 er3 _ => ⟨c2, ρ2, o2, er3, ?_⟩⟩
        rw [← s2] at q3
        have e12 := Ext.trans o' e' e2
        replace q3 : PostS X.K X.mg Wx _ c2 H2 (mb ρ2 c2.st) := q3
        generalize mb ρ2 c2.st = r at q3 ⊢
        cases r with
        | bad => exact q3
        | ok f ρ3 st =>
          cases f with
          | next => exact fun c3 H3 σ3 h1 h2 h3 h4 => (q3 c3 H3 σ3 h1 h2 h3 h4).elim fun c4 h => h.elim fun ρ4 h => ⟨hlt, c4, ρ4, Ext.trans o2 e12 h.1, h.2.1, h.2.2.1, h.2.2.2⟩
          | cont => exact fun c3 H3 σ3 h1 h2 h3 h4 => (q3 c3 H3 σ3 h1 h2 h3 h4).elim fun c4 h => h.elim fun ρ4 h => ⟨hlt, c4, ρ4, Ext.trans o2 e12 h.1, h.2.1, h.2.2.1, h.2.2.2⟩
          | _ => exact q3
    · have hx : xs[i]? = none := List.getElem?_eq_none (by omega)
      refine .inl ⟨wi.1 (by omega), ?_⟩
      rw [List.drop_eq_nil_of_le (by omega)] at q'
      exact q'.next o' er'
theorem asg_post {D : Ends} {p : Pt} {σ : L2.St} {H : Hp} {c : Cfg} {ρ : Env} (o : Ok X.K c H) (er : ERel X.K c ρ σ) (q : PostS X.K X.mg Wx D c H (exS (v ρ c.st) ρ fun w s => asgS (bindPt p w ρ) s)) :
    tAsg (vG X Wx v) (gP X.K p) D σ H := (sG.exS o er q).imp fun u H1 ⟨c1, w, e1, o1, er1, d1, p1⟩ => by
  have p1 : PostS X.K X.mg Wx D c1 H1 (match bindPt p w ρ with | some ρ => .ok .next ρ c1.st | none => .bad) := p1
  cases hb : bindPt p w ρ with
  | none =>
    rw [hb] at p1
    exact p1.elim
  | some ρ' =>
    rw [hb] at p1
    exact ⟨c1, ρ, w, ρ', o1, er1, d1, hb, fun σ' er' _ => p1 c1 H1 σ' rfl (Ext.refl c1 H1) o1 er'⟩
theorem s_asg {tg : Expr} {p : Pt} (he : PE X e (vG X Wx v)) (hg : PG X tg (gP X.K p)) (hc : isComp e = false) (ht : isStar tg = false) (hw : swappedStores [tg] e X.env = pure none) :
    PS X (.Assign [tg] e pos) (zG X Wx fun ρ s => exS (v ρ s) ρ fun w s => asgS (bindPt p w ρ) s) :=
  ps_wk (ps_asg he hg (swaps_no hc) hw (by rw [assignEach_ne ht]; rfl)) fun D σ H ⟨c, ρ, o, er, q⟩ => asg_post o er q
theorem gName_of {i : Nat} {v : V} {σ : L2.St} {H : Hp} {Q : L2.St → Hp → Prop} (h : gP X.K (.name i) v σ H Q) : gName i v σ H Q := by
  obtain ⟨c, ρ, w, ρ', o, er, d, hb, k⟩ := h
  cases hb
  exact k _ (er.set d) ⟨by simp, fun j hj => by
    have : i ≠ j := fun e => hj (by simp [Pt.slots, e])
    rw [List.getElem?_set_ne this]⟩
end
end Cr

namespace Cr
open PySem L2
section
variable {X : Cx} {Wx : WX} {e a b : Expr} {pos : Pos} {v va vb : Env → M W}
theorem swap2 {x y : Str} {px py pt pt2 : Pos} {kt k2 : Nat} (hk : X.env.scope.kind = .function) (hx : X.env.scope.names.lookup x = some .local) (hy : X.env.scope.names.lookup y = some .local) (hl : py.line = px.line) (hxy : x ≠ y) (ha : isStar a = false) (hb : isStar b = false)
    (hf : [a, b].all (foldedForSure 8) = false) (hc : [a, b].all (constantsAlone 8) = false) : swappedStores [.Tuple [.Name x px, .Name y py] kt pt] (.Tuple [a, b] k2 pt2) X.env = pure (some [x, y]) := by
  have e1 : X.env.blockKind = .function := by
    unfold PySem.Env.blockKind
    rw [hk]
    rfl
  have kx : X.env.kindOf x = some .local := hx
  have ky : X.env.kindOf y = some .local := hy
  have st : ∀ f : Expr → Bool, (∀ e, isStar e = false → f e = false) → ¬ [a, b].any f = true := fun f h => by
    simp [h a ha, h b hb]
  have hyx : (y == x) = false := by simpa using fun z : y = x => hxy z.symm
  unfold swappedStores
  dsimp only
  rw [e1, if_neg (show ¬ (!([Expr.Name x px, Expr.Name y py].length == 2 || [Expr.Name x px, Expr.Name y py].length == 3) || [a, b].length != [Expr.Name x px, Expr.Name y py].length || ScopeKind.function != ScopeKind.function) = true from by simp), if_neg (st _ fun e h => by cases e <;> first | rfl | cases h)]
  simp [List.filterMap_cons, kx, ky, Expr.pos, hl, hf, hc, List.eraseDups_cons, hyx, hxy]
theorem swap3 {d : Expr} {x y z : Str} {px py pz pt pt2 : Pos} {kt k2 : Nat} (hk : X.env.scope.kind = .function) (hx : X.env.scope.names.lookup x = some .local) (hy : X.env.scope.names.lookup y = some .local) (hz : X.env.scope.names.lookup z = some .local) (hl : py.line = px.line) (hl2 : pz.line = px.line)
    (hxy : x ≠ y) (hxz : x ≠ z) (hyz : y ≠ z) (ha : isStar a = false) (hb : isStar b = false) (hd : isStar d = false)
    (hf : [a, b, d].all (foldedForSure 8) = false) (hc : [a, b, d].all (constantsAlone 8) = false) : swappedStores [.Tuple [.Name x px, .Name y py, .Name z pz] kt pt] (.Tuple [a, b, d] k2 pt2) X.env = pure (some [x, y, z]) := by
  have e1 : X.env.blockKind = .function := by
    unfold PySem.Env.blockKind
    rw [hk]
    rfl
  have kx : X.env.kindOf x = some .local := hx
  have ky : X.env.kindOf y = some .local := hy
  have kz : X.env.kindOf z = some .local := hz
  have st : ∀ f : Expr → Bool, (∀ e, isStar e = false → f e = false) → ¬ [a, b, d].any f = true := fun f h => by
    simp [h a ha, h b hb, h d hd]
  have hyx : (y == x) = false := by simpa using fun q : y = x => hxy q.symm
  have hzx : (z == x) = false := by simpa using fun q : z = x => hxz q.symm
  have hzy : (z == y) = false := by simpa using fun q : z = y => hyz q.symm
  unfold swappedStores
  dsimp only
  rw [e1, if_neg (show ¬ (!([Expr.Name x px, Expr.Name y py, Expr.Name z pz].length == 2 || [Expr.Name x px, Expr.Name y py, Expr.Name z pz].length == 3) || [a, b, d].length != [Expr.Name x px, Expr.Name y py, Expr.Name z pz].length || ScopeKind.function != ScopeKind.function) = true from by simp), if_neg (st _ fun e h => by cases e <;> first | rfl | cases h)]
  simp [List.filterMap_cons, kx, ky, kz, Expr.pos, hl, hl2, hf, hc, List.eraseDups_cons, hyx, hxy, hzx, hzy]
theorem swap_no {tg : Expr} {vs : List Expr} {k2 : Nat} {pt2 : Pos} (hf : vs.all (foldedForSure 8) = true) : swappedStores [tg] (.Tuple vs k2 pt2) X.env = pure none := by
  have main : ∀ ts : List Expr, (if (!(ts.length == 2 || ts.length == 3) || vs.length != ts.length || X.env.blockKind != .function) = true then (pure none : Sem (Option (List Str))) else
      if vs.any (fun | .Starred .. => true | _ => false) = true then pure none else
      if ((ts.filterMap fun | .Name id pos => if X.env.kindOf id == some .local && pos.line == (ts.head?.map (·.pos.line)).getD 0 then some id else none | _ => none).length != ts.length || (ts.filterMap fun | .Name id pos => if X.env.kindOf id == some .local && pos.line == (ts.head?.map (·.pos.line)).getD 0 then some id else none | _ => none).eraseDups.length != (ts.filterMap fun | .Name id pos => if X.env.kindOf id == some .local && pos.line == (ts.head?.map (·.pos.line)).getD 0 then some id else none | _ => none).length) = true then pure none else
      if vs.all (foldedForSure 8) = true then pure none else
      if vs.all (constantsAlone 8) = true then unsupported "assign.tuple-of-constant-expressions:order-of-the-stores" else pure (some (ts.filterMap fun | .Name id pos => if X.env.kindOf id == some .local && pos.line == (ts.head?.map (·.pos.line)).getD 0 then some id else none | _ => none))) = pure none := fun ts => by
    split
    · rfl
    · split
      · rfl
      · split
        · rfl
        · first
            | rfl
            | rw [if_pos hf]
  unfold swappedStores
  cases tg <;> first | rfl | exact main _
theorem len_fm {α β : Type} {f : α → Option β} : ∀ {l : List α}, l.any (fun t => (f t).isNone) = true → (l.filterMap f).length < l.length
  | [], h => by cases h
  | t :: l, h => by
    rw [List.any_cons] at h
    cases e : f t with
    | none =>
      rw [List.filterMap_cons_none e]
      exact Nat.lt_succ_of_le (List.length_filterMap_le f l)
    | some b =>
      rw [e] at h
      rw [List.filterMap_cons_some e]
      exact Nat.succ_lt_succ (len_fm (by simpa using h))
theorem swap_cell {es vs : List Expr} {kt k2 : Nat} {pt pt2 : Pos} (h : es.any (fun t => !isLocN X.env.scope t) = true) : swappedStores [.Tuple es kt pt] (.Tuple vs k2 pt2) X.env = pure none := by
  have key : (es.filterMap fun | .Name id pos => if X.env.kindOf id == some .local && pos.line == (es.head?.map (·.pos.line)).getD 0 then some id else none | _ => none).length < es.length := by
    refine len_fm ?_
    obtain ⟨t, ht, q⟩ := List.any_eq_true.mp h
    refine List.any_eq_true.mpr ⟨t, ht, ?_⟩
    cases t with
    | Name x p =>
      have q : (!(X.env.scope.names.lookup x == some .local)) = true := q
      have q : (X.env.scope.names.lookup x == some .local) = false := by rw [Bool.not_eq_true'] at q; exact q
      have q : (X.env.kindOf x == some .local) = false := q
      show ((if (X.env.kindOf x == some .local && p.line == (es.head?.map (·.pos.line)).getD 0) = true then some x else none) : Option Str).isNone = true
      rw [q]
      rfl
    | _ => rfl
  unfold swappedStores
  dsimp only
  split
  · rfl
  · split
    · rfl
    · rw [if_pos (by
        rw [Bool.or_eq_true]
        refine .inl ?_
        exact bne_iff_ne.mpr (Nat.ne_of_lt key))]
section
variable {α β : Type} {K : KF} {mg : Str → Option Value} {D : Ends} {c : Cfg} {H : Hp} {ρ : Env} {σ : L2.St}
theorem exS_post {m : M α} {k : α → Store → SR} (er : ERel K c ρ σ) (h : PostS K mg Wx D c H (exS (m c.st) ρ k)) :
    Post K mg c H (m c.st) (fun c' H' a (b : Cfg × α) => Ok K c' H' ∧ Ext c H c' H' ∧ b = (c', a)) (fun b H' => PostS K mg Wx D b.1 H' (k b.2 b.1.st)) (fun cls da H' => Wx cls da σ H') := by
  generalize m c.st = r at h
  cases r with
  | ok a st =>
    intro c' H' b h1 h2 h3 ⟨h4, h5, h6⟩
    subst h6
    subst h1
    exact PostS.later h3 h2 h
  | exc x d st => exact fun c' H' cls da h1 h2 h3 h4 => h c' H' σ cls da h1 h2 h3 (er.mono h2) h4
  | bad => exact h.elim
/-- .. and there it is -/
theorem exS_at {k : α → Store → SR} {c1 : Cfg} {H1 : Hp} {a : α} (o : Ok K c1 H1) (e : Ext c H c1 H1)
    (h : Post K mg c1 H1 (.ok a c1.st) (fun c' H' a (b : Cfg × α) => Ok K c' H' ∧ Ext c H c' H' ∧ b = (c', a)) (fun b H' => PostS K mg Wx D b.1 H' (k b.2 b.1.st)) (fun cls da H' => Wx cls da σ H')) : PostS K mg Wx D c1 H1 (k a c1.st) :=
  Post.now (b := (c1, a)) o h ⟨o, e, rfl⟩
end
theorem s_par2 {i j : Nat} {x y : Str} {px py pt pt2 : Pos} {kt k2 : Nat} (hc : X.calm = true) (hN : X.N.Nodup) (hi : X.N[i]? = some x) (hj : X.N[j]? = some y) (hij : i ≠ j) (hx : X.env.scope.names.lookup x = some .local) (hy : X.env.scope.names.lookup y = some .local)
    (ha : PE X a (vG X Wx va)) (hb : PE X b (vG X Wx vb)) (h1 : isStar a = false) (h2 : isStar b = false) (hw : swappedStores [.Tuple [.Name x px, .Name y py] kt pt] (.Tuple [a, b] k2 pt2) X.env = pure (some [x, y])) :
    PS X (.Assign [.Tuple [.Name x px, .Name y py] kt pt] (.Tuple [a, b] k2 pt2) pos) (zG X Wx fun ρ s => exS (M.bind (va ρ) (fun x => M.bind (vb ρ) fun y => M.pure (x, y)) s) ρ fun p s => .ok .next (setVar j p.2 (setVar i p.1 ρ)) s) :=
  ps_wk (ps_par hc hN hi hj hij hx hy (pa_cons ha (pa_cons hb pa_nil (star_ne h2)) (star_ne h1)) hw) fun D σ H ⟨c, ρ, o, er, q⟩ =>
    (tG.bind o er rfl (exS_post er q)).imp fun x H1 ⟨c1, w1, e1, o1, er1, d1, p1⟩ => (tG.bind o1 er1 rfl p1).imp fun y H2 ⟨c2, w2, e2, o2, er2, d2, p2⟩ =>
      ⟨x, y, rfl, (exS_at (a := (w1, w2)) (k := fun p s => .ok .next (setVar j p.2 (setVar i p.1 ρ)) s) o2 (Ext.trans o1 e1 e2) p2).next o2 ((er2.set (WDen.mono e2 d1)).set d2)⟩
theorem s_par3 {i j l : Nat} {x y z : Str} {d : Expr} {vd : Env → M W} {px py pz pt pt2 : Pos} {kt k2 : Nat} (hc : X.calm = true) (hN : X.N.Nodup) (hi : X.N[i]? = some x) (hj : X.N[j]? = some y) (hl : X.N[l]? = some z) (hij : i ≠ j) (hil : i ≠ l) (hjl : j ≠ l)
    (hx : X.env.scope.names.lookup x = some .local) (hy : X.env.scope.names.lookup y = some .local) (hz : X.env.scope.names.lookup z = some .local)
    (ha : PE X a (vG X Wx va)) (hb : PE X b (vG X Wx vb)) (hd : PE X d (vG X Wx vd)) (h1 : isStar a = false) (h2 : isStar b = false) (h3 : isStar d = false)
    (hw : swappedStores [.Tuple [.Name x px, .Name y py, .Name z pz] kt pt] (.Tuple [a, b, d] k2 pt2) X.env = pure (some [x, y, z])) :
    PS X (.Assign [.Tuple [.Name x px, .Name y py, .Name z pz] kt pt] (.Tuple [a, b, d] k2 pt2) pos) (zG X Wx fun ρ s => exS (M.bind (va ρ) (fun x => M.bind (vb ρ) fun y => M.bind (vd ρ) fun z => M.pure (x, y, z)) s) ρ fun p s => .ok .next (setVar l p.2.2 (setVar j p.2.1 (setVar i p.1 ρ))) s) :=
  ps_wk (ps_par3 hc hN hi hj hl hij hil hjl hx hy hz (pa_cons ha (pa_cons hb (pa_cons hd pa_nil (star_ne h3)) (star_ne h2)) (star_ne h1)) hw) fun D σ H ⟨c, ρ, o, er, q⟩ =>
    (tG.bind o er rfl (exS_post er q)).imp fun x H1 ⟨c1, w1, e1, o1, er1, d1, p1⟩ => (tG.bind o1 er1 rfl p1).imp fun y H2 ⟨c2, w2, e2, o2, er2, d2, p2⟩ => (tG.bind o2 er2 rfl p2).imp fun z H3 ⟨c3, w3, e3, o3, er3, d3, p3⟩ =>
      ⟨x, y, z, rfl, (exS_at (a := (w1, w2, w3)) (k := fun p s => .ok .next (setVar l p.2.2 (setVar j p.2.1 (setVar i p.1 ρ))) s) o3 (Ext.trans o1 e1 (Ext.trans o2 e2 e3)) p3).next o3 (((er3.set (WDen.mono e3 (WDen.mono e2 d1))).set (WDen.mono e3 d2)).set d3)⟩
theorem setIx_ref (n : Nat) (b x : D) (s : Store) : setIx (.ref n) b x s = match s[n]? with
    | some (.list xs) => (match b with
      | .int k => (match L2.ixN xs.length k with
        | some j => Res.ok () (s.set n (.list (xs.set j (.d x))))
        | none => .bad)
      | _ => .bad)
    | _ => .bad := by
  cases b <;> first
    | rfl
    | (show Res.bad = _
       cases s[n]? with
       | none => rfl
       | some cell => cases cell <;> rfl)
theorem WDenL.set {K : KF} {c : Cfg} {x : W} {v : V} (h : WDen K c x v) : ∀ {xs : List W} {vs : List V} (i : Nat), WDenL K c xs vs → WDenL K c (xs.set i x) (vs.set i v)
  | _, _, _, .nil => .nil
  | _, _, 0, .cons _ l => .cons h l
  | _, _, i + 1, .cons q l => .cons q (WDenL.set h i l)
/-- the end of a store at an index -/
theorem setIx_end {K : KF} {mg : Str → Option Value} {c c1 : Cfg} {H H1 : Hp} {De : Ends} {w : W} {b y : D} {x i v : V} {ρ : Env} {σ : L2.St} (e : Ext c H c1 H1) (o : Ok K c1 H1) (er : ERel K c1 ρ σ) (d : WDen K c1 w x) (sb : See K c1.B H1 b i) (dy : Den K c1.B y v)
    (h : Post K mg c1 H1 (setIx w b y c1.st) (fun c' H' (a : Unit) (b : Cfg × Unit) => Ok K c' H' ∧ Ext c H c' H' ∧ b = (c', a)) (fun b H' => PostS K mg Wx De b.1 H' (.ok .next ρ b.1.st)) (fun cls da H' => Wx cls da σ H')) :
    rSetL x i v H1 fun H2 => De.nx σ H2 := by
  cases w with
  | d _ => exact h.elim
  | ref n =>
    obtain ⟨a, hi, rfl⟩ := d
    rw [setIx_ref] at h
    obtain ⟨xs, es, h⟩ := post_listAt (f := fun xs => match b with
      | .int k => (match L2.ixN xs.length k with
        | some j => Res.ok () (c1.st.set n (.list (xs.set j (.d y))))
        | none => .bad)
      | _ => .bad) h
    obtain ⟨_, us, r2, r3⟩ := live_list o hi es
    cases b with
    | int k =>
      cases sb
      dsimp only at h
      cases ej : L2.ixN xs.length k with
      | none => rw [ej] at h; exact h.elim
      | some j =>
        rw [ej] at h
        dsimp only at h
        obtain ⟨o4, e4⟩ := put_cell (cell := .list (xs.set j (.d y))) (o := HO.lst (us.set j v)) o hi es rfl ⟨_, rfl, r3.set (show WDen K c1 (.d y) v from dy) j⟩
        exact ⟨a, us, k, j, rfl, rfl, r2, by rw [← r3.length]; exact ej, (h _ _ (_, ()) rfl e4 o4 ⟨o4, Ext.trans o e e4, rfl⟩).next o4 (er.mono e4)⟩
    | _ => exact h.elim
theorem swaps_sole {tg : Expr} {l : Nat} {env : PySem.Env} (h : isComp e = false) : swapsWithSole [tg] e l env = pure false := by
  cases e <;> first | rfl | cases h
theorem s_asgIx {o i : Expr} {vo vi ve : Env → M W} {spos : Pos} (he : PE X e (vG X Wx ve)) (ho : PE X o (vG X Wx vo)) (hi : PE X i (vG X Wx vi)) (hc : isComp e = false) (hs : isSlice i = false) :
    PS X (.Assign [.Subscript o i spos] e pos) (zG X Wx fun ρ s => exS (M.bind (ve ρ) (fun w => M.bind (vo ρ) fun x => M.bind (vi ρ) fun y => M.bind (freeze w) fun w => M.bind (peek y) fun y => setIx x y w) s) ρ fun _ s => .ok .next ρ s) :=
  ps_wk (ps_asg he (pg_sub ho hi set_list (by intro v; cases i <;> first | rfl | cases hs)) (swaps_sole hc) (by cases e <;> rfl) rfl) fun D σ H ⟨c, ρ, o, er, q⟩ =>
    (tG.bind o er rfl (exS_post er q)).imp fun x H1 ⟨c1, w1, e1, o1, er1, d1, p1⟩ => (tG.bind o1 er1 rfl p1).imp fun y H2 ⟨c2, w2, e2, o2, er2, d2, p2⟩ => (tG.bind o2 er2 rfl p2).imp fun z H3 ⟨c3, w3, e3, o3, er3, d3, p3⟩ => by
      obtain ⟨c4, v4, e4, o4, d4, p4⟩ := post_freeze o3 (WDen.mono e3 (WDen.mono e2 d1)) p3
      obtain ⟨b5, s5, p5⟩ := post_peek o4 (WDen.mono e4 d3) p4
      exact setIx_end (Ext.trans o1 e1 (Ext.trans o2 e2 (Ext.trans o3 e3 e4))) o4 (er3.mono e4) (WDen.mono e4 (WDen.mono e3 d2)) s5 d4 p5
def gSl (to tl th : TE) : TG := fun v σ H Q => to σ H fun o H1 => tl σ H1 fun lo H2 => th σ H2 fun hi H3 => ∃ l b xs ys a c, o = .ref l ∧ lo = .int a ∧ hi = .int c ∧ v = .ref b ∧ H3 l = some (.lst xs) ∧ H3 b = some (.lst ys) ∧ l ≠ b ∧ 0 ≤ a ∧ a ≤ c ∧ c ≤ xs.length ∧
  xs.length + ys.length ≤ sizeLine ∧ Q σ (upd H3 l (.lst (xs.take a.toNat ++ ys ++ xs.drop c.toNat)))
theorem pg_slice {o lo hi : Expr} {to tl th : TE} {p2 spos : Pos} (ho : PE X o to) (hl : PE X lo tl) (hh : PE X hi th) : PG X (.Subscript o (.Slice (some lo) (some hi) none p2) spos) (gSl to tl th) := by
  refine ⟨fun pins s σ H v u Q I r h => ?_⟩
  have ha : assign (.Subscript o (.Slice (some lo) (some hi) none p2) spos) X.env u = (do
      let ov ← holding [u] (eval o X.env)
      let iv ← holding [u, ov] (eval (.Slice (some lo) (some hi) none p2) X.env)
      standAt spos
      holding [u, ov, iv] (setItem ov iv u)
      release [iv, u, ov] []) := rfl
  rw [ha]
  refine wpAny_bind (wpAny_holding (thn (ho.run pins s σ H _ I h) fun ov s1 ⟨x, H1, I1, r1, q1⟩ => ?_))
  refine wpAny_bind (wpAny_holding (wpAny_Slice ?_))
  rw [evalPart_some]
  refine thn (hl.run pins s1 σ H1 _ I1 q1) fun vl s2 ⟨xl, H2, I2, rl, q2⟩ => ?_
  rw [evalPart_some]
  refine thn (hh.run pins s2 σ H2 _ I2 q2) fun vh s3 ⟨xh, H3, I3, rh, q3⟩ => ?_
  rw [evalPart_none]
  refine wpAny_pure ?_
  obtain ⟨l, b, xs, ys, ia, ic, rfl, rfl, rfl, rfl, h1, h2, hne, h0, hac, hcx, hz, q⟩ := q3
  cases r1
  cases r
  have I4 : Inv X pins σ H3 { s3 with heap := s3.heap.push { cls := .type "slice", data := .fields #[vl, vh, .none] } } := I3.kept (t' := s3.toks) fun b ob q => Heap.get?_push_of_some _ q
  refine wpAny_bind (wpAny_standAt (wpAny_bind (wpAny_holding (set_slice I4 h1 h2 hne (Heap.IsSliceOf.new ..) rl rh h0 hac hcx hz fun s5 I5 => ?_))))
  exact wpAny_release ⟨σ, _, I5, q⟩
theorem setSl_ref (n : Nat) (lo hi x : D) (s : Store) : setSl (.ref n) lo hi x s = match s[n]? with
    | some (.list xs) => (match lo, hi, x with
      | .int a, .int b, .list ys => if decide (0 ≤ a) && decide (a ≤ b) && decide (b ≤ xs.length) && fits (xs.length + ys.length) then Res.ok () (s.set n (.list (xs.take a.toNat ++ ys.map .d ++ xs.drop b.toNat))) else .bad
      | _, _, _ => .bad)
    | _ => .bad := by
  unfold setSl
  cases lo <;> cases hi <;> cases x <;> first | rfl | (dsimp only; split <;> rfl)
theorem WDenL.take {K : KF} {c : Cfg} : ∀ {xs : List W} {vs : List V} (n : Nat), WDenL K c xs vs → WDenL K c (xs.take n) (vs.take n)
  | _, _, 0, _ => .nil
  | _, _, _ + 1, .nil => .nil
  | _, _, n + 1, .cons h l => .cons h (WDenL.take n l)
theorem WDenL.drop {K : KF} {c : Cfg} : ∀ {xs : List W} {vs : List V} (n : Nat), WDenL K c xs vs → WDenL K c (xs.drop n) (vs.drop n)
  | _, _, 0, r => r
  | _, _, _ + 1, .nil => .nil
  | _, _, n + 1, .cons _ l => WDenL.drop n l
theorem den_list {K : KF} {B : Hp} {xs : List D} {v : V} (h : Den K B (.list xs) v) : ∃ b zs, v = .ref b ∧ B b = some (.lst zs) ∧ DenL K B xs zs := by
  cases h with
  | list h l => exact ⟨_, _, rfl, h, l⟩
theorem s_asgSl {o lo hi : Expr} {vo vl vh ve : Env → M W} {p2 spos : Pos} (he : PE X e (vG X Wx ve)) (ho : PE X o (vG X Wx vo)) (hl : PE X lo (vG X Wx vl)) (hh : PE X hi (vG X Wx vh)) (hc : isComp e = false) :
    PS X (.Assign [.Subscript o (.Slice (some lo) (some hi) none p2) spos] e pos) (zG X Wx fun ρ s => exS (M.bind (ve ρ) (fun w => M.bind (vo ρ) fun x => M.bind (vl ρ) fun y => M.bind (vh ρ) fun z => M.bind (freeze w) fun w => M.bind (peek y) fun y => M.bind (peek z) fun z => setSl x y z w) s) ρ fun _ s => .ok .next ρ s) :=
  ps_wk (ps_asg he (pg_slice ho hl hh) (swaps_sole hc) (by cases e <;> rfl) rfl) fun D σ H ⟨c, ρ, o, er, q⟩ =>
    (tG.bind o er rfl (exS_post er q)).imp fun x H1 ⟨c1, w1, e1, o1, er1, d1, p1⟩ => (tG.bind o1 er1 rfl p1).imp fun y H2 ⟨c2, w2, e2, o2, er2, d2, p2⟩ => (tG.bind o2 er2 rfl p2).imp fun z H3 ⟨c3, w3, e3, o3, er3, d3, p3⟩ => (tG.bind o3 er3 rfl p3).imp fun u H4 ⟨c4, w4, e4, o4, er4, d4, p4⟩ => by
      obtain ⟨c5, v5, e5, o5, d5, p5⟩ := post_freeze o4 (WDen.mono e4 (WDen.mono e3 (WDen.mono e2 d1))) p4
      obtain ⟨lo, sl, p5⟩ := post_peek o5 (WDen.mono e5 (WDen.mono e4 d3)) p5
      obtain ⟨hi, sh, p5⟩ := post_peek o5 (WDen.mono e5 d4) p5
      have dx := WDen.mono e5 (WDen.mono e4 (WDen.mono e3 d2))
      cases w2 with
      | d _ => exact p5.elim
      | ref n =>
        obtain ⟨a, hix, rfl⟩ := dx
        rw [setSl_ref] at p5
        obtain ⟨xs, es, p5⟩ := post_listAt (f := fun xs => match lo, hi, v5 with
          | .int a, .int b, .list ys => if decide (0 ≤ a) && decide (a ≤ b) && decide (b ≤ xs.length) && fits (xs.length + ys.length) then Res.ok () (c5.st.set n (.list (xs.take a.toNat ++ ys.map .d ++ xs.drop b.toNat))) else .bad
          | _, _, _ => .bad) p5
        obtain ⟨b0, us, r2, r3⟩ := live_list o5 hix es
        cases lo with
        | int i1 => cases hi with
          | int i2 => cases v5 with
            | list ys =>
              obtain ⟨hq, p5⟩ := post_if p5
              obtain ⟨hq, q4⟩ := and2 hq
              obtain ⟨q1, q2, q3⟩ := and3 hq
              have q1 := of_decide_eq_true q1
              have q2 := of_decide_eq_true q2
              have q3 := of_decide_eq_true q3
              cases sl
              cases sh
              obtain ⟨b, zs, rfl, hb, lb⟩ := den_list d5
              obtain ⟨o6, e6⟩ := put_cell (cell := .list (xs.take i1.toNat ++ ys.map .d ++ xs.drop i2.toNat)) (o := HO.lst (us.take i1.toNat ++ zs ++ us.drop i2.toNat)) o5 hix es rfl ⟨_, rfl, ((r3.take _).append (wdenl_of lb)).append (r3.drop _)⟩
              have hl3 := r3.length
              refine ⟨a, b, us, zs, i1, i2, rfl, rfl, rfl, rfl, r2, o5.sub _ _ hb, fun z => ?_, q1, q2, by rw [← hl3]; exact q3, by rw [← hl3, ← lb.length]; exact fits_le q4, ?_⟩
              · subst z
                rw [hb] at b0
                cases b0
              · exact (p5 _ _ (_, ()) rfl e6 o6 ⟨o6, Ext.trans o1 e1 (Ext.trans o2 e2 (Ext.trans o3 e3 (Ext.trans o4 e4 (Ext.trans o5 e5 e6)))), rfl⟩).next o6 ((er4.mono e5).mono e6)
            | _ => exact p5.elim
          | _ => exact p5.elim
        | _ => exact p5.elim
end
end Cr

namespace Cr
open PySem L2
section
variable {X : Cx} {Wx : WX} {e a b : Expr} {pos : Pos} {v va vb : Env → M W}
def rAug (op : Operator) : R2 := fun x y H Q => (∃ i j z, x = .int i ∧ y = .int j ∧ op ≠ .Pow ∧ intBin op i j = some z ∧ Q (.int z) H) ∨
  (op = .Add ∧ ∃ i j, x = .str i ∧ y = .str j ∧ i.length + j.length ≤ sizeLine ∧ Q (.str (i ++ j)) H)
theorem ip_aug (op : Operator) : PIp X op (rAug op) := by
  intro pins s σ H x y v u Q I rx ry h
  rcases h with ⟨i, j, z, rfl, rfl, np, e, q⟩ | ⟨rfl, h⟩
  · cases op with
    | Add => cases e; exact iop_add pins s σ H _ _ v u Q I rx ry ⟨i, j, rfl, rfl, q⟩
    | Sub => cases e; exact iop_sub pins s σ H _ _ v u Q I rx ry ⟨i, j, rfl, rfl, q⟩
    | Mult =>
      obtain ⟨e0, rfl⟩ := if_some e
      refine iop_mul pins s σ H _ _ v u Q I rx ry ⟨i, j, rfl, rfl, ?_, q⟩
      unfold mulOk at e0
      rcases (Bool.or_eq_true _ _).mp e0 with e | e
      · exact .inl (of_decide_eq_true e)
      · exact .inr (of_decide_eq_true e)
    | FloorDiv =>
      obtain ⟨e0, rfl⟩ := if_some e
      obtain ⟨e1, e2⟩ := and2 e0
      exact iop_fdiv pins s σ H _ _ v u Q I rx ry ⟨i, j, rfl, rfl, ⟨of_decide_eq_true e1, of_decide_eq_true e2⟩, q⟩
    | Mod =>
      obtain ⟨e0, rfl⟩ := if_some e
      exact iop_mod pins s σ H _ _ v u Q I rx ry ⟨i, j, rfl, rfl, of_decide_eq_true e0, q⟩
    | Pow => exact absurd rfl np
    | LShift =>
      obtain ⟨e0, rfl⟩ := if_some e
      obtain ⟨e1, e2, e3⟩ := and3 e0
      exact iop_shl pins s σ H _ _ v u Q I rx ry ⟨i, j, rfl, rfl, ⟨of_decide_eq_true e1, of_decide_eq_true e2, of_decide_eq_true e3⟩, q⟩
    | RShift =>
      obtain ⟨e0, rfl⟩ := if_some e
      exact iop_shr pins s σ H _ _ v u Q I rx ry ⟨i, j, rfl, rfl, of_decide_eq_true e0, q⟩
    | BitAnd => cases e; exact iop_and pins s σ H _ _ v u Q I rx ry ⟨i, j, rfl, rfl, q⟩
    | BitOr => cases e; exact iop_or pins s σ H _ _ v u Q I rx ry ⟨i, j, rfl, rfl, q⟩
    | BitXor => cases e; exact iop_xor pins s σ H _ _ v u Q I rx ry ⟨i, j, rfl, rfl, q⟩
    | _ => cases e
  · exact iop_add_str pins s σ H x y v u Q I rx ry h
theorem aug_ok {K : KF} {c : Cfg} {H : Hp} {op : Operator} {a b z : D} {x y : V} {Q : VK} (o : Ok K c H) (sa : See K c.B H a x) (sb : See K c.B H b y) (e : augD op a b = some z) (q : ∀ v, Den K c.B z v → Q v H) : rAug op x y H Q := by
  cases a with
  | int i =>
    cases sa
    cases b with
    | int j =>
      cases sb
      have main : op ≠ .Pow → (intBin op i j).map D.int = some z → rAug op (.int i) (.int j) H Q := fun np e => by
        obtain ⟨w, e1, rfl⟩ := Option.map_eq_some_iff.mp e
        exact .inl ⟨i, j, w, rfl, rfl, np, e1, q _ (.int w)⟩
      cases op with
      | Pow => cases e
      | _ => exact main (by intro h; cases h) e
    | _ => cases e
  | str s =>
    cases sa
    cases b with
    | str t =>
      cases sb
      cases op with
      | Add =>
        obtain ⟨e1, rfl⟩ := if_some e
        refine .inr ⟨rfl, _, _, rfl, rfl, ?_, ?_⟩
        · rw [S_len, S_len]
          exact fits_le e1
        · rw [S_app]
          exact q _ (.str _)
      | _ => cases e
    | _ => cases e
  | _ => cases b <;> cases e
theorem post_var {γ δ : Type} {K : KF} {mg : Str → Option Value} {c : Cfg} {H : Hp} {ρ : Env} {σ : L2.St} {i : Nat} {k : W → M γ} {R : Cfg → Hp → γ → δ → Prop} {Q : δ → Hp → Prop} {E : EK} (er : ERel K c ρ σ) (h : Post K mg c H (M.bind (getVar i ρ) k c.st) R Q E) :
    ∃ w v, σ[i]? = some (some v) ∧ WDen K c w v ∧ Post K mg c H (k w c.st) R Q E := by
  cases e : ρ[i]? with
  | none =>
    have g : getVar i ρ c.st = .bad := by
      unfold getVar
      rw [e]
    exact (by
      have h : Post K mg c H ((getVar i ρ c.st).andThen k) R Q E := h
      rw [g] at h
      exact h.elim)
  | some ow =>
    cases ow with
    | none =>
      have g : getVar i ρ c.st = .bad := by
        unfold getVar
        rw [e]
      exact (by
        have h : Post K mg c H ((getVar i ρ c.st).andThen k) R Q E := h
        rw [g] at h
        exact h.elim)
    | some w =>
      obtain ⟨v, h1, h2⟩ := er.2 i w e
      have g : getVar i ρ c.st = .ok w c.st := by
        unfold getVar
        rw [e]
      have h : Post K mg c H ((getVar i ρ c.st).andThen k) R Q E := h
      rw [g] at h
      exact ⟨w, v, h1, h2, h⟩
theorem post_liftE {δ γ : Type} {K : KF} {mg : Str → Option Value} {c : Cfg} {H : Hp} {o : Option γ} {R : Cfg → Hp → γ → δ → Prop} {Q : δ → Hp → Prop} {E : EK} (h : Post K mg c H (lift o c.st) R Q E) : ∃ a, o = some a ∧ Post K mg c H (.ok a c.st) R Q E := by
  cases o with
  | none => exact h.elim
  | some a => exact ⟨a, rfl, h⟩
theorem s_aug {i : Nat} {x : Str} {op : Operator} {pos' : Pos} (hN : X.N.Nodup) (hi : X.N[i]? = some x) (hx : Loc X.env.scope x) (hf : X.fn x = true ∨ X.env.scope.names.lookup x = some .local) (he : PE X e (vG X Wx v)) :
    PS X (.AugAssign (.Name x pos') op e pos) (zG X Wx fun ρ s => exS (M.bind (getVar i ρ) (fun x => M.bind (v ρ) fun y => M.bind (peek x) fun x => M.bind (peek y) fun y => lift (augD op x y)) s) ρ fun z s => .ok .next (setVar i (.d z) ρ) s) :=
  ps_wk (ps_aug hN hi hx he (ip_aug op) hf) fun D σ H ⟨c, ρ, o, er, q⟩ => by
    obtain ⟨w, x, h1, d0, p0⟩ := post_var er (exS_post er q)
    refine ⟨x, h1, (tG.bind o er rfl p0).imp fun y H1 ⟨c1, w1, e1, o1, er1, d1, p1⟩ => ?_⟩
    obtain ⟨x2, s2, p1⟩ := post_peek o1 (WDen.mono e1 d0) p1
    obtain ⟨y2, t2, p1⟩ := post_peek o1 d1 p1
    obtain ⟨z, ez, p1⟩ := post_liftE p1
    exact aug_ok o1 s2 t2 ez fun v dv => (exS_at (a := z) (k := fun z s => .ok .next (setVar i (.d z) ρ) s) o1 e1 p1).next o1 (er1.set (show WDen X.K c1 (.d z) v from dv))
theorem get_list : PGet X (rIxL X.K) := by
  intro pins s σ H o i ov iv Q I ro ri h
  obtain ⟨p, xs, k, z, rfl, rfl, hq, he, q⟩ := h
  cases ro
  obtain ⟨t, rfl⟩ := ri
  obtain ⟨its, r, pl, hz⟩ := I.list hq
  obtain ⟨j, h1, h2, h3, h4, h5⟩ := atI_get he
  obtain ⟨w, ew, rw'⟩ := r.get h2
  have hl := r.length
  have hn := line63
  have fin : EP X pins σ Q w s := ⟨z, H, I, rw', q⟩
  by_cases h0 : 0 ≤ k
  · have hj : k.toNat = j := by
      rw [seqIndex_of h0 h5] at h1
      exact Option.some.inj h1
    exact wpAny_getItem_list pl.isList h0 (by omega) (by rw [hj]; simpa using ew) fin
  · have hj : (k + (its.toArray.size : Int)).toNat = j := by
      rw [seqIndex_neg (by omega) h4] at h1
      rw [List.size_toArray, ← hl]
      exact Option.some.inj h1
    exact wpAny_getItem_list_neg pl.isList (by omega) (by rw [List.size_toArray] <;> omega) (by omega) (by rw [hj]; simpa using ew) fin
theorem getIx_ref (n : Nat) (b : D) (s : Store) : getIx (.ref n) b s = match s[n]? with
    | some (.list xs) => (match b with
      | .int k => (match L2.atI xs k with
        | some w => Res.ok w s
        | none => .bad)
      | _ => .bad)
    | _ => .bad := rfl
theorem s_augIx {o i : Expr} {vo vi : Env → M W} {op : Operator} {spos : Pos} (ho : PE X o (vG X Wx vo)) (hi : PE X i (vG X Wx vi)) (he : PE X e (vG X Wx v)) (hs : isSlice i = false) :
    PS X (.AugAssign (.Subscript o i spos) op e pos) (zG X Wx fun ρ s => exS (M.bind (vo ρ) (fun x => M.bind (vi ρ) fun y => M.bind (peek y) fun y => M.bind (getIx x y) fun u => M.bind (v ρ) fun w => M.bind (peek u) fun u => M.bind (peek w) fun w => M.bind (lift (augD op u w)) fun z => setIx x y z) s) ρ fun _ s => .ok .next ρ s) :=
  ps_wk (ps_augS ho hi get_list he (ip_aug op) set_list (by intro ov iv new; cases i <;> first | rfl | cases hs)) fun D σ H ⟨c, ρ, o, er, q⟩ =>
    (tG.bind o er rfl (exS_post er q)).imp fun x H1 ⟨c1, w1, e1, o1, er1, d1, p1⟩ => (tG.bind o1 er1 rfl p1).imp fun y H2 ⟨c2, w2, e2, o2, er2, d2, p2⟩ => by
      obtain ⟨b, sb, p2⟩ := post_peek o2 d2 p2
      have d1' := WDen.mono e2 d1
      cases w1 with
      | d _ => exact p2.elim
      | ref n =>
        obtain ⟨ad, hix, rfl⟩ := d1'
        have p2 : Post _ _ c2 H2 ((getIx (.ref n) b c2.st).andThen _) _ _ _ := p2
        rw [getIx_ref] at p2
        cases es : c2.st[n]? with
        | none => rw [es] at p2; exact p2.elim
        | some cell =>
          rw [es] at p2
          cases cell with
          | frz _ => exact p2.elim
          | tup _ => exact p2.elim
          | list xs =>
            obtain ⟨_, us, r2, r3⟩ := live_list o2 hix es
            cases b with
            | int k =>
              cases sb
              dsimp only at p2
              cases ej : L2.atI xs k with
              | none => rw [ej] at p2; exact p2.elim
              | some u =>
                rw [ej] at p2
                obtain ⟨uv, r1, du⟩ := atI_wden r3 ej
                refine ⟨ad, us, k, uv, rfl, rfl, SqL.of r2, r1, (tG.bind o2 er2 rfl p2).imp fun yv H3 ⟨c3, w3, e3, o3, er3, d3, p3⟩ => ?_⟩
                obtain ⟨u2, s2, p3⟩ := post_peek o3 (du.mono e3) p3
                obtain ⟨y2, t2, p3⟩ := post_peek o3 d3 p3
                obtain ⟨z, ez, p3⟩ := post_lift p3
                exact aug_ok o3 s2 t2 ez fun v dv => setIx_end (Ext.trans o1 e1 (Ext.trans o2 e2 e3)) o3 er3 (show WDen X.K c3 (.ref n) (.ref ad) from ⟨ad, e3.ix hix, rfl⟩) (show See X.K c3.B H3 (.int k) (.int k) from .int k) dv p3
            | _ => exact p2.elim
theorem s_raise {k : Nat} {C fI cc cda : Addr} {c x : Str} {p cp : Pos} (hc : X.calm = true) (tk : Takes X Wx) (T : SupC X.prog X.K C fI cc cda x) (hm : X.mg c = some (.ref C)) (hsu : X.mg "super" = none) (hr : Room k X.A) (ha : PE X a (vG X Wx va)) (h1 : isStar a = false) (hg : Gl X c) (hdb : (c == ("__debug__" : Str)) = false) :
    PS X (.Raise (some (.Call (.Name c p) [a] [] cp)) none pos) (zG X Wx fun ρ s => exS (M.bind (va ρ) (fun w => M.bind (freeze w) fun y => M.pure y) s) ρ fun y s => .ok (.exc c (some (x, y))) ρ s) :=
  ps_wk (ps_raise hc tk (pmk_sup T hm hsu hr (pa_cons ha pa_nil (star_ne h1)) hg hdb h1)) fun D σ H ⟨cf, ρ, o, er, q⟩ =>
    (tG.bind o er rfl (exS_post er q)).imp fun v H1 ⟨c1, w1, e1, o1, er1, d1, p1⟩ => ⟨v, rfl, fun d hd => by
      obtain ⟨c2, y, e2, o2, dy, p2⟩ := post_freeze o1 d1 p1
      have p3 := exS_at (a := y) (k := fun y s => .ok (.exc c (some (x, y))) ρ s) o2 (Ext.trans o1 e1 e2) p2
      obtain ⟨o3, e3⟩ := new_data (o := HO.xd [(x, v)]) o2 hd
      exact p3 ⟨upd c2.B d (.xd [(x, v)]), c2.pl, c2.st⟩ _ σ (.ref C) (some d) rfl e3 o3 ((er1.mono e2).mono e3) ⟨C, rfl, hm, d, v, rfl, upd_same, dy.mono e3.exB⟩⟩
/-- what a suite's expression is: data, the caught one's field -/
def hG (X : Cx) (i : Nat) (a : Addr) (cls : Value) (da : Option Addr) (C : Addr) (g : Str) (y : D) (m : Option D) : TE := fun σ H Q => ∃ c, Ok X.K c H ∧ σ[i]? = some (some (.ref a)) ∧ cls = .ref C ∧ (∃ dd v, da = some dd ∧ c.B dd = some (.xd [(g, v)]) ∧ Den X.K c.B y v) ∧
  ∃ z, m = some z ∧ ∀ c' H' v, c'.st = c.st → Ext c H c' H' → Ok X.K c' H' → Den X.K c'.B z v → Q v H'
def hGs (X : Cx) (i : Nat) (a : Addr) (cls : Value) (da : Option Addr) (C : Addr) (g : Str) (y : D) (m : Option (List D)) : TA := fun σ H Q => ∃ c, Ok X.K c H ∧ σ[i]? = some (some (.ref a)) ∧ cls = .ref C ∧ (∃ dd v, da = some dd ∧ c.B dd = some (.xd [(g, v)]) ∧ Den X.K c.B y v) ∧
  ∃ z, m = some z ∧ ∀ c' H' v, c'.st = c.st → Ext c H c' H' → Ok X.K c' H' → DenL X.K c'.B z v → Q v H'
/-- the suite's class has no own field of that name -/
structure SuiteK (X : Cx) (n : Str) (i : Nat) (C : Addr) : Prop where
  nm : X.N[i]? = some n
  vis : Vis X.env.scope n
  d1 : (n == ("__debug__" : Str)) = false
  d2 : (n == ("__classdict__" : Str)) = false
  xf : XfC X.K C
theorem nones (K : KF) (c : Cfg) (σ : L2.St) : ERel K c (List.replicate σ.length none) σ := ⟨by simp, fun i w h => by
  rw [List.getElem?_replicate] at h
  split at h <;> cases h⟩
end
section
variable {X : Cx} {i : Nat} {C : Addr} {n g fx : Str} {y : D} {cc : CC}
mutual
theorem pe_hx (S : SuiteK X n i C) (hno : PySem.W.findIn X.K (.ref C) fx = some none) {a : Addr} {oe : Obj} {cls : Value} {d : Option Addr} {pn : List (Addr × Obj)} (hz : Zc cls d oe) (hf : ∃ vs, oe.data = .fields vs) : ∀ (k : Nat) (e : Expr) (h : HX), compH cc n fx k e = some h → PE (X.suite a ((a, oe) :: pn)) e (hG X i a cls d C g y (hxD g y h))
  | 0, e, h, q => by cases q
  | k + 1, e, h, q => by
    cases e with
    | Constant kk j p =>
      obtain ⟨z, hz, rfl⟩ := Option.map_eq_some_iff.mp (show (conD kk).map HX.con = some h from q)
      refine pe_wk (s_con (X := X.suite a ((a, oe) :: pn)) (Wx := fun _ _ _ _ => True) hz) fun σ H Q ⟨c, o, h1, h2, h3, w, h4, h5⟩ => ?_
      cases h4
      exact ⟨c, _, o, nones _ _ σ, fun c' H' b e1 e2 o2 d2 => h5 c' H' b e1 e2 o2 d2⟩
    | Attribute o f p =>
      cases o with
      | Name x xp =>
        have q : (if (x == n && f == fx) = true then some (HX.fld f) else none) = some h := q
        by_cases hx : (x == n && f == fx) = true
        · rw [if_pos hx] at q
          cases q
          obtain ⟨hx, hfx⟩ := and2 hx
          have hx := eq_of_beq hx
          have hfx := eq_of_beq hfx
          subst hx
          subst hfx
          by_cases hfg : f = g
          · subst hfg
            refine pe_wk (pe_xf S.xf hno hz hf (pe_var (X := X.suite a ((a, oe) :: pn)) S.nm S.vis S.d1 S.d2)) fun σ H Q ⟨c, o, h1, h2, ⟨dd, v, h3, h4, h5⟩, w, h6, h7⟩ => ?_
            have h6 : (if f = f then some y else none) = some w := h6
            rw [if_pos rfl] at h6
            cases h6
            refine ⟨.ref a, h1, rfl, h2, dd, _, v, h3, o.sub _ _ h4, by simp, h7 c H v rfl (Ext.refl c H) o h5⟩
          · refine ⟨fun pins s σ H Q I ⟨c, o, h1, h2, h3, w, h6, h7⟩ => ?_⟩
            have h6 : (if f = g then some y else none) = some w := h6
            rw [if_neg hfg] at h6
            cases h6
        · rw [if_neg hx] at q
          cases q
      | _ => cases q
    | Tuple es j p =>
      have q : (if noStar es then (es.mapM (compH cc n fx k)).map HX.tup else none) = some h := q
      by_cases hs : noStar es = true
      · rw [if_pos hs] at q
        obtain ⟨hs', e1, rfl⟩ := Option.map_eq_some_iff.mp q
        refine pe_wk (pe_tup (pa_hx S hno hz hf k es hs' e1 hs)) fun σ H Q ⟨c, o, h1, h2, h3, w, h6, h7⟩ => ?_
        obtain ⟨ys, h8, hw⟩ := Option.bind_eq_some_iff.mp (show (hxDs g y hs').bind (fun ys => if fits ys.length then some (D.tup ys) else none) = some w from h6)
        obtain ⟨h9, rfl⟩ := if_some hw
        have h10 : fits ys.length = true := h9
        refine ⟨c, o, h1, h2, h3, ys, h8, fun c' H' vs e2 e3 o3 d3 => ⟨by rw [← d3.length]; exact fits_le h10, fun p hp => ?_⟩⟩
        obtain ⟨o4, e4⟩ := new_data (o := HO.tup vs) o3 hp
        exact h7 ⟨upd c'.B p (.tup vs), c'.pl, c'.st⟩ _ _ e2 (Ext.trans o3 e3 e4) o4 (.tup upd_same (d3.mono e4.exB))
      · rw [if_neg hs] at q
        cases q
    | _ => cases q
theorem pa_hx (S : SuiteK X n i C) (hno : PySem.W.findIn X.K (.ref C) fx = some none) {a : Addr} {oe : Obj} {cls : Value} {d : Option Addr} {pn : List (Addr × Obj)} (hz : Zc cls d oe) (hf : ∃ vs, oe.data = .fields vs) : ∀ (k : Nat) (es : List Expr) (hs : List HX), es.mapM (compH cc n fx k) = some hs → noStar es = true → PA (X.suite a ((a, oe) :: pn)) es (hGs X i a cls d C g y (hxDs g y hs))
  | k, [], hs, q, _ => by
    cases q
    refine pa_wk pa_nil fun σ H Q ⟨c, o, h1, h2, h3, w, h6, h7⟩ => ?_
    cases h6
    exact h7 c H [] rfl (Ext.refl c H) o .nil
  | k, e :: es, hs, q, st => by
    rw [List.mapM_cons] at q
    obtain ⟨h, q1, q⟩ := Option.bind_eq_some_iff.mp q
    obtain ⟨r, q2, q⟩ := Option.bind_eq_some_iff.mp q
    cases q
    have st : (!isStar e && noStar es) = true := st
    obtain ⟨s1, s2⟩ := and2 st
    refine pa_wk (pa_cons (pe_hx S hno hz hf k e h q1) (pa_hx S hno hz hf k es r q2 s2) (star_ne (by simpa using s1))) fun σ H Q ⟨c, o, h1, h2, ⟨dd, v, h3, h4, h5⟩, w, h6, h7⟩ => ?_
    obtain ⟨z, z1, h6⟩ := Option.bind_eq_some_iff.mp (show (hxD g y h).bind (fun z => (hxDs g y r).map fun zs => z :: zs) = some w from h6)
    obtain ⟨zs, z2, rfl⟩ := Option.map_eq_some_iff.mp h6
    exact ⟨c, o, h1, h2, ⟨dd, v, h3, h4, h5⟩, z, z1, fun c1 H1 v1 e1 x1 o1 d1 => ⟨c1, o1, h1, h2, ⟨dd, v, h3, x1.exB _ _ h4, Den.mono x1.exB h5⟩, zs, z2, fun c2 H2 vs e2 x2 o2 d2 => h7 c2 H2 (v1 :: vs) (e2.trans e1) (Ext.trans o1 x1 x2) o2 (.cons (Den.mono x2.exB d1) d2)⟩⟩
end
theorem s_try {Wx : WX} {x : Str} {body : List Stmt} {mb : Env → Store → SR} {h : HX} {e : Expr} {k : Nat} {np pos pos' rp : Pos} (S : SuiteK X n i C) (hs : X.stack = X.env :: X.outer) (hf : X.env.frame = some X.env.locals) (hN : X.N.Nodup) (hln : X.env.scope.names.lookup n = some .local)
    (hm : X.mg x = some (.ref C)) (hg : Gl X x) (hdb : (x == ("__debug__" : Str)) = false) (tk : Takes X Wx) (hex : PySem.W.exmOne X.K (.ref C) (.ref C) = some true) (hno : PySem.W.findIn X.K (.ref C) fx = some none) (hc : compH cc n fx k e = some h)
    (hb : ∀ (W : WX) (pn : List (Addr × Obj)) (xe : Value → Shared → Prop), Takes (X.tr pn xe) W → PassesOwn (model X.prog X.w) X.A X.env xe → PSs (X.tr pn xe) body (zG X W mb)) :
    PS X (.Try body [.ExceptHandler (some (.Name x np)) (some n) [.Return (some e) rp] pos'] [] [] pos) (zG X Wx fun ρ s => match mb ρ s with
      | .ok (.exc z d) ρ s => catchS x i h z d ρ s
      | r => r) := by
  refine ps_wk (ps_try_as (tb := fun W => zG X W mb) (ts := fun a cls d D σ H => ∃ g y, hG X i a cls d C g y (hxD g y h) σ H fun v H' => D.rt v H') hs hf hN S.nm hln ⟨hg, hdb, .inl hm⟩ tk hb fun a oe cls d pn hz hff => ?_) fun D σ H ⟨c, ρ, o, er, p⟩ => ⟨c, ρ, o, er, ?_⟩
  · exact ⟨fun pins s σ H D I ⟨g, y, q⟩ => (pss_cons (ps_ret (pe_hx S hno hz hff k e h hc)) pss_nil).run pins s σ H D I q⟩
  · have p : PostS X.K X.mg Wx D c H (match mb ρ c.st with
      | .ok (.exc z d) ρ s => catchS x i h z d ρ s
      | r => r) := p
    generalize mb ρ c.st = r at p
    cases r with
    | bad => exact p
    | ok f ρ' st =>
      cases f with
      | exc z d =>
        cases d with
        | none => exact p.elim
        | some gy =>
          obtain ⟨g, y⟩ := gy
          have p2 : PostS X.K X.mg Wx D c H (if z = x ∧ i < ρ'.length then (match hxD g y h with | some z => .ok (.ret (.d z)) ρ' st | none => .bad) else .bad) := p
          by_cases hz : z = x ∧ i < ρ'.length
          · rw [if_pos hz] at p2
            obtain ⟨rfl, hlt⟩ := hz
            cases em : hxD g y h with
            | none =>
              rw [em] at p2
              exact p2.elim
            | some u =>
              rw [em] at p2
              intro c' H' σ' cls da h1 h2 h3 h4 h5
              obtain ⟨C', rfl, hm', a, v, rfl, ha, dv⟩ := h5
              rw [hm] at hm'
              cases hm'
              refine ⟨true, hex, fun _ a' na => ⟨g, y, c', h3, ?_, rfl, ⟨a, v, rfl, ha, dv⟩, u, em, fun c2 H2 v2 e2 x2 o2 d2 => p2 c2 H2 v2 (e2.trans h1) (Ext.trans h3 h2 x2) o2 d2⟩, fun z => by cases z⟩
              rw [List.getElem?_set_self (h4.1 ▸ hlt)]
          · rw [if_neg hz] at p2
            exact p2.elim
      | _ => exact p
end
end Cr

namespace Cr
open PySem L2
section
variable {run : Str → List W → M W} {gl : Str → Option D} {cc : CC} {k n : Nat} {sc raw : Scope} {X : Cx} {m : Nat} {pos : Pos}
theorem name_pt {x : Str} {tp : Pos} {p : Pt} (h : compPt cc sc 5 (.Name x tp) = some p) : ∃ i, p = .name i ∧ slot? cc sc x = some i := by
  obtain ⟨i, hi, h⟩ := Option.bind_eq_some_iff.mp (show ((slot? cc sc x).bind fun i => match sc.names.lookup x with | some .local | some .cell => some (Pt.name i) | _ => none) = some p from h)
  split at h
  · cases h; exact ⟨i, rfl, hi⟩
  · cases h; exact ⟨i, rfl, hi⟩
  · cases h
theorem c_setLc {Wx : WX} (tk : Takes X Wx) (ih : IH run gl cc k n) (G : GX run gl cc k sc sc X) {elt : Expr} {gens : List Comprehension} {scope : Scope} {x : Str} {tp ep : Pos} {p : Pt} (hp : compPt cc sc 5 (.Name x tp) = some p) (hsw : lcSwap sc scope x tp ep = true) :
    PS X (.Assign [.Name x tp] (.ListComp elt gens scope ep) pos) (zG X Wx fun ρ s => exS ((sem run gl (compE cc (n + 1) sc m (.ListComp elt gens scope ep))).v ρ s) ρ fun w s => asgS (bindPt p w ρ) s) := by
  obtain ⟨j, rfl, hj⟩ := name_pt hp
  obtain ⟨hN, _⟩ := slot_ok hj
  have hw0 : (sc.names.lookup x == some NameKind.local && tp.line == ep.line && !stepNames scope x) = true := hsw
  obtain ⟨hl, hw2, hw3⟩ := and3 hw0
  have hl : sc.names.lookup x = some .local := by simpa using hl
  have bad : PS X (.Assign [.Name x tp] (.ListComp elt gens scope ep) pos) (zG X Wx fun ρ s => exS ((sem run gl .bad).v ρ s) ρ fun w s => asgS (bindPt (.name j) w ρ) s) := ps_bad
  match gens with
  | [] => exact bad
  | ⟨_, _, _, _⟩ :: ⟨_, _, _, _⟩ :: _ => exact bad
  | [⟨tg, it, cs, isa⟩] =>
    show PS X _ (zG X Wx fun ρ s => exS ((sem run gl (match compPt cc scope 5 tg with
        | some p => if L2.blkC cc.N sc scope (ownOf cc scope) && walkOk tg it && decide (cs.length ≤ 1) && decide (isa = 0) && (ptSlots 5 p).all fun i => ((ownOf cc scope).map (·.2)).contains i then
            (if m ≤ 1 then .lc (m != 0) (compE cc n (relSc scope sc) 0 elt) p (compE cc n sc 0 it) (cs.map (compE cc n (relSc scope sc) 0)) ((ownOf cc scope).map (·.2))
            else .lcw (compE cc n (relSc scope sc) (m - 1) elt) p (compE cc n sc 0 it) (cs.map (compE cc n (relSc scope sc) 0)) ((ownOf cc scope).map (·.2))) else .bad
        | none => .bad)).v ρ s) ρ fun w s => asgS (bindPt (.name j) w ρ) s)
    split
    · rename_i p hp
      split
      · rename_i h
        obtain ⟨h, h5⟩ := and2 h
        obtain ⟨h, h4⟩ := and2 h
        obtain ⟨h1, h2, h3⟩ := and3 h
        have h4 := of_decide_eq_true h4
        subst h4
        have ok := own_ok h1
        have okX : BlkOk X.N X.env.scope scope (ownOf cc scope) := by
          rw [G.N, G.scope]
          exact ok
        have hs : ∀ i ∈ p.slots, i ∈ (ownOf cc scope).map (·.2) := fun i hi => by
          rw [← slots_eq 5 tg p hp] at hi
          have := List.all_eq_true.mp h5 i hi
          simpa using this
        have hi := (ih sc sc X 0 it G Wx tk).2.2 tg h2
        have hf : ∀ x, foldedSetIterable it X.env x = pure x := fun x => by
          cases it <;> first | rfl | cases h2
        have ht : ∀ (s : Shared) (H : Hp) (C : Addr) (cl : List (Str × Addr)) (fp : List Addr), PTs (X.blk s H scope (compEnvC scope cl C X.env) fp) cs (tG X.K X.mg W0 (smT (sems run gl (cs.map (compE cc n (relSc scope sc) 0)))) RB) := fun s H C cl fp => by
          refine s_tests ?_
          match cs, h3 with
          | [], _ => exact .inl ⟨rfl, rfl⟩
          | [f], _ => exact .inr ⟨f, _, rfl, rfl, (ih _ _ _ 0 f (G.blk ok s H C cl fp) W0 takes0).2.1⟩
          | _ :: _ :: _, h => simp at h
        have he : ∀ (q : Nat) (s : Shared) (H : Hp) (C : Addr) (cl : List (Str × Addr)) (fp : List Addr), PE (X.blk s H scope (compEnvC scope cl C X.env) fp) elt (tG X.K X.mg W0 (sem run gl (compE cc n (relSc scope sc) q elt)).v (RW X.K)) :=
          fun q s H C cl fp => (ih _ _ _ q elt (G.blk ok s H C cl fp) W0 takes0).1
        have hy : X.N[j]? = some x := by rw [G.N]; exact hN
        have hyl : X.env.scope.names.lookup x = some .local := by rw [G.scope]; exact hl
        have sw : ∀ {pins : List (Addr × Obj)} {s : Shared} {σ : L2.St} {H : Hp}, Inv X pins σ H s → swapsWith (.ListComp elt [⟨tg, it, cs, 0⟩] scope ep) (some (.Name x tp)) pos.line X.env = pure true := fun I => by
          show pure (X.env.blockKind == .function && X.env.kindOf x == some .local && tp.line == ep.line && !(stepNames scope x)) = (pure true : Sem Bool)
          have e1 : X.env.blockKind = .function := by
            unfold PySem.Env.blockKind
            rw [I.ok.kind]
            rfl
          have e2 : X.env.kindOf x = some .local := hyl
          rw [e1, e2, hw2, hw3]
          rfl
        split
        · refine ⟨fun pins s σ H D I h => ?_⟩
          refine (ps_setLc (wi := iG X Wx (sem run gl (compE cc n sc 0 it)).i) (g := gP X.K p) (tt := tG X.K X.mg W0 (smT (sems run gl (cs.map (compE cc n (relSc scope sc) 0)))) RB) (te := tG X.K X.mg W0 (sem run gl (compE cc n (relSc scope sc) 0 elt)).v (RW X.K)) (pos := ep) (spos := pos) (py := tp) G.calm (G.N ▸ G.nd) hy hyl (sw I) hi okX (fun s H C cl fp => pt_ok (G.blk ok s H C cl fp) 5 tg p hp) ht (he 0) hf).run pins s σ H D I ?_
          obtain ⟨c, ρ, o, er, q⟩ := h
          exact lc_read (m := m != 0) hs _ _ _ ((asg_post o er q).imp fun v H' q => gName_of q)
        · refine ⟨fun pins s σ H D I h => ?_⟩
          refine (ps_setLc (wi := iG X Wx (sem run gl (compE cc n sc 0 it)).i) (g := gP X.K p) (tt := tG X.K X.mg W0 (smT (sems run gl (cs.map (compE cc n (relSc scope sc) 0)))) RB) (te := tG X.K X.mg W0 (sem run gl (compE cc n (relSc scope sc) (m - 1) elt)).v (RW X.K)) (pos := ep) (spos := pos) (py := tp) G.calm (G.N ▸ G.nd) hy hyl (sw I) hi okX (fun s H C cl fp => pt_ok (G.blk ok s H C cl fp) 5 tg p hp) ht (he (m - 1)) hf).run pins s σ H D I ?_
          obtain ⟨c, ρ, o, er, q⟩ := h
          exact lc_readW hs _ _ _ ((asg_post o er q).imp fun v H' q => gName_of q)
      · exact bad
    · exact bad

theorem c_name_asg {Wx : WX} (tk : Takes X Wx) (G : GX run gl cc k sc sc X) {x : Str} {tp : Pos} {e : Expr} : PS X (.Assign [.Name x tp] e pos) (zG X Wx (evS run gl (compName cc sc (.Name x tp) x tp e))) := by
  have main : ∀ p, compPt cc sc 5 (.Name x tp) = some p → isComp e = false → PS X (.Assign [.Name x tp] e pos) (zG X Wx (evS run gl (.asg p (compE cc fuel sc (cc.mv x) e)))) := fun p hp hc => by
    have he := (sound_e fuel sc sc X (cc.mv x) e G Wx tk).1
    exact s_asg he (pt_ok G 5 _ p hp) hc rfl (by cases e <;> rfl)
  have bad : PS X (.Assign [.Name x tp] e pos) (zG X Wx (evS run gl .bad)) := ps_bad
  unfold compName
  cases hp : compPt cc sc 5 (.Name x tp) with
  | none => exact bad
  | some p =>
    cases e with
    | SetComp => exact bad
    | DictComp => exact bad
    | ListComp elt gens scope ep =>
      show PS X _ (zG X Wx (evS run gl (if lcSwap sc scope x tp ep then .asg p (compE cc fuel sc (cc.mv x) (.ListComp elt gens scope ep)) else .bad)))
      split
      · rename_i h
        exact c_setLc (n := 39) tk (sound_e 39) G hp h
      · exact bad
    | _ => exact main p hp rfl
theorem loc_slot {x : Str} {i : Nat} (G : GX run gl cc k sc raw X) (h : locSlot cc sc x = some i) : X.N[i]? = some x ∧ X.env.scope.names.lookup x = some .local ∧ (x == ("__debug__" : Str)) = false ∧ (x == ("__classdict__" : Str)) = false := by
  unfold locSlot at h
  split at h
  · rename_i hl
    obtain ⟨h1, _, h3, h4⟩ := slot_ok h
    rw [G.N, G.scope]
    exact ⟨h1, by simpa using hl, h3, h4⟩
  · cases h
theorem isFun_ok (h : isFun sc = true) : sc.kind = .function := by
  unfold isFun at h
  split at h
  · rename_i e
    exact e
  · cases h
theorem c_par {Wx : WX} (tk : Takes X Wx) (G : GX run gl cc k sc sc X) {es vs : List Expr} {kt k2 : Nat} {pt pt2 : Pos} : PS X (.Assign [.Tuple es kt pt] (.Tuple vs k2 pt2) pos) (zG X Wx (evS run gl (compPar cc sc (.Tuple es kt pt) (.Tuple vs k2 pt2) es vs))) := by
  have bad : PS X (.Assign [.Tuple es kt pt] (.Tuple vs k2 pt2) pos) (zG X Wx (evS run gl .bad)) := ps_bad
  have ex := fun m e => (sound_e (run := run) (gl := gl) (cc := cc) (k := k) fuel sc sc X m e G Wx tk).1
  unfold compPar
  split
  · exact bad
  · rename_i h0
    have h0 : (isFun sc && noStar vs) = true := by simpa using h0
    obtain ⟨hF, hS⟩ := and2 h0
    have hk : X.env.scope.kind = .function := by rw [G.scope]; exact isFun_ok hF
    have hN : X.N.Nodup := G.N ▸ G.nd
    split
    · rename_i hf
      split
      · rename_i p hp
        refine s_asg (ex 0 _) (pt_ok G 5 _ p hp) rfl rfl ?_
        rcases (Bool.or_eq_true _ _).mp hf with hf | hf
        · exact swap_no hf
        · exact swap_cell (by rw [G.scope]; exact hf)
      · exact bad
    · rename_i hf
      have hff : vs.all (foldedForSure 8) = false := (Bool.or_eq_false_iff.mp (Bool.eq_false_iff.mpr hf)).1
      split
      · exact bad
      · rename_i hc
        have hc : vs.all (constantsAlone 8) = false := by simpa using hc
        split
        · rename_i x px y py a b _ _
          split
          · rename_i i j hi hj
            split
            · rename_i hq
              obtain ⟨q1, q2, q3⟩ := and3 hq
              obtain ⟨i1, i2, _⟩ := loc_slot G hi
              obtain ⟨j1, j2, _⟩ := loc_slot G hj
              have hs : (!isStar a && (!isStar b && true)) = true := hS
              obtain ⟨s1, hs⟩ := and2 hs
              obtain ⟨s2, _⟩ := and2 hs
              have s1 : isStar a = false := by simpa using s1
              have s2 : isStar b = false := by simpa using s2
              exact s_par2 G.calm hN i1 j1 (of_decide_eq_true q1) i2 j2 (ex _ _) (ex _ _) s1 s2 (swap2 hk i2 j2 (of_decide_eq_true q3) (of_decide_eq_true q2) s1 s2 hff hc)
            · exact bad
          · exact bad
        · rename_i x px y py z pz a b d _ _
          split
          · rename_i i j l hi hj hl
            split
            · rename_i hq
              obtain ⟨hq, q8⟩ := and2 hq
              obtain ⟨hq, q7⟩ := and2 hq
              obtain ⟨hq, q6⟩ := and2 hq
              obtain ⟨hq, q5⟩ := and2 hq
              obtain ⟨hq, q4⟩ := and2 hq
              obtain ⟨q1, q2, q3⟩ := and3 hq
              obtain ⟨i1, i2, _⟩ := loc_slot G hi
              obtain ⟨j1, j2, _⟩ := loc_slot G hj
              obtain ⟨l1, l2, _⟩ := loc_slot G hl
              have hs : (!isStar a && (!isStar b && (!isStar d && true))) = true := hS
              obtain ⟨s1, hs⟩ := and2 hs
              obtain ⟨s2, hs⟩ := and2 hs
              obtain ⟨s3, _⟩ := and2 hs
              have s1 : isStar a = false := by simpa using s1
              have s2 : isStar b = false := by simpa using s2
              have s3 : isStar d = false := by simpa using s3
              exact s_par3 G.calm hN i1 j1 l1 (of_decide_eq_true q1) (of_decide_eq_true q2) (of_decide_eq_true q3) i2 j2 l2 (ex _ _) (ex _ _) (ex _ _) s1 s2 s3 (swap3 hk i2 j2 l2 (of_decide_eq_true q7) (of_decide_eq_true q8) (of_decide_eq_true q4) (of_decide_eq_true q5) (of_decide_eq_true q6) s1 s2 s3 hff hc)
            · exact bad
          · exact bad
        · exact bad
theorem c_asg {Wx : WX} (tk : Takes X Wx) (G : GX run gl cc k sc sc X) {e tg : Expr} : PS X (.Assign [tg] e pos) (zG X Wx (evS run gl (compAsg cc sc e tg))) := by
  have bad : PS X (.Assign [tg] e pos) (zG X Wx (evS run gl .bad)) := ps_bad
  have ex := fun m e => (sound_e (run := run) (gl := gl) (cc := cc) (k := k) fuel sc sc X m e G Wx tk).1
  cases tg with
  | Name x tp => exact c_name_asg tk G
  | Tuple es j tp =>
    cases hT : isTup e with
    | true =>
      cases e with
      | Tuple vs k2 p2 => exact c_par tk G
      | _ => cases hT
    | false =>
      have q : compAsg cc sc e (.Tuple es j tp) = if isComp e then .bad else match compPt cc sc 5 (.Tuple es j tp) with
        | some p => .asg p (compE cc fuel sc 0 e)
        | none => .bad := by
        cases e <;> first | rfl | cases hT
      rw [q]
      split
      · exact bad
      · rename_i h2
        split
        · rename_i p hp
          exact s_asg (ex 0 e) (pt_ok G 5 _ p hp) (by simpa using h2) rfl (by cases e <;> first | rfl | cases hT)
        · exact bad
  | Subscript o i sp =>
    cases hC : isComp e with
    | true =>
      have q : compAsg cc sc e (.Subscript o i sp) = .bad := by
        show (if isComp e then S.bad else _) = _
        rw [if_pos hC]
      rw [q]
      exact bad
    | false =>
      have main : isSlice i = false → compAsg cc sc e (.Subscript o i sp) = .asgIx (compE cc fuel sc 0 o) (compE cc fuel sc 0 i) (compE cc fuel sc 0 e) → PS X (.Assign [.Subscript o i sp] e pos) (zG X Wx (evS run gl (compAsg cc sc e (.Subscript o i sp)))) := fun hs q => by
        rw [q]
        exact s_asgIx (ex 0 e) (ex 0 o) (ex 0 i) hC hs
      cases i with
      | Slice lo hi st p2 =>
        have q : compAsg cc sc e (.Subscript o (.Slice lo hi st p2) sp) = (match (generalizing := false) lo, hi, st with
          | some lo, some hi, none => .asgSl (compE cc fuel sc 0 o) (compE cc fuel sc 0 lo) (compE cc fuel sc 0 hi) (compE cc fuel sc 0 e)
          | _, _, _ => .bad) := by
          show (if isComp e then S.bad else _) = _
          rw [if_neg (by rw [hC]; exact Bool.false_ne_true)]
          all_goals (cases lo <;> cases hi <;> cases st <;> rfl)
        rw [q]
        cases lo with
        | none => exact bad
        | some lo =>
          cases hi with
          | none => exact bad
          | some hi =>
            cases st with
            | some _ => exact bad
            | none => exact s_asgSl (ex 0 e) (ex 0 o) (ex 0 lo) (ex 0 hi) hC
      | _ => exact main rfl (by
          show (if isComp e then S.bad else _) = _
          rw [if_neg (by rw [hC]; exact Bool.false_ne_true)])
  | _ => exact bad
theorem ss_map {Wx : WX} {f : Stmt → S} : ∀ {b : List Stmt}, (∀ st ∈ b, PS X st (zG X Wx (evS run gl (f st)))) → PSs X b (zG X Wx (evSs run gl (b.map f)))
  | [], _ => ss_nil
  | st :: b, h => ss_cons (h st (by simp)) (ss_map fun s hs => h s (by simp [hs]))
theorem evS_while {c : E} {b : List S} : evS run gl (.while c b) = whileLoop (evT run gl c) (evSs run gl b) noFuel := by
  funext ρ s
  rw [evS]
/-- in a try's body -/
theorem GX.tr (G : GX run gl cc k sc raw X) (pn : List (Addr × Obj)) (xe : Value → Shared → Prop) : GX run gl cc k sc raw (X.tr pn xe) :=
  ⟨G.calm, G.N, G.nd, G.scope, G.rawL, G.rawC, G.room, G.gls, fun f h => ⟨(G.fns f h).1⟩, G.bis, G.gcd, fun c f h => ⟨(G.exs c f h).ex, (G.exs c f h).su⟩⟩
/-- THE THEOREM about statements -/
theorem sound_s : ∀ (n : Nat) {X : Cx} {Wx : WX}, Takes X Wx → PassesOwn (model X.prog X.w) X.A X.env X.xe → X.stack = X.env :: X.outer → X.env.frame = some X.env.locals → GX run gl cc k sc sc X → ∀ st : Stmt, PS X st (zG X Wx (evS run gl (compS cc sc n st)))
  | 0, _, _, _, _, _, _, _, st => ps_bad
  | n + 1, X, Wx, tk, po, hst, hfr, G, st => by
    have bad : PS X st (zG X Wx (evS run gl .bad)) := ps_bad
    have ih := fun s => sound_s n tk po hst hfr G s
    have ex := fun m e => sound_e (run := run) (gl := gl) (cc := cc) (k := k) fuel sc sc X m e G Wx tk
    have hN : X.N.Nodup := G.N ▸ G.nd
    cases st with
    | Assign tgs e pos =>
      match tgs with
      | [tg] => exact c_asg tk G
      | [] => exact bad
      | _ :: _ :: _ => exact bad
    | AugAssign tg op e pos =>
      cases tg with
      | Name x xp =>
        show PS X _ (zG X Wx (evS run gl (match locSlot cc sc x with
          | some i => .aug i op (compE cc fuel sc 0 e)
          | none => .bad)))
        split
        · rename_i i hi
          obtain ⟨h1, h2, _⟩ := loc_slot G hi
          exact s_aug hN h1 (.inl h2) (.inr h2) (ex 0 e).1
        · exact bad
      | Subscript o i p =>
        show PS X _ (zG X Wx (evS run gl (if isSlice i then .bad else .augIx op (compE cc fuel sc 0 o) (compE cc fuel sc 0 i) (compE cc fuel sc 0 e))))
        split
        · exact bad
        · rename_i h
          exact s_augIx (ex 0 o).1 (ex 0 i).1 (ex 0 e).1 (by simpa using h)
      | _ => exact bad
    | Raise r cause pos =>
      show PS X _ (zG X Wx (evS run gl (match (generalizing := false) r, cause with
        | some (.Call (.Name x _) [e] [] _), none => (match cc.ex x with
          | some f => if glob? sc x && !isStar e then .raise x f (compE cc fuel sc 0 e) else .bad
          | none => .bad)
        | _, _ => .bad)))
      clear bad
      split
      · rename_i x xp e cp
        split
        · rename_i f hx
          split
          · rename_i h
            obtain ⟨h1, h2⟩ := and2 h
            obtain ⟨g1, g2⟩ := glob_ok h1
            obtain ⟨⟨C, fI, c1, c2, hm, T, _, _⟩, hsu⟩ := G.exs x f hx
            exact s_raise G.calm tk T hm hsu G.room (ex 0 e).1 (by simpa using h2) (G.g g1) g2
          · exact ps_bad
        · exact ps_bad
      · exact ps_bad
    | Expr e pos =>
      show PS X _ (zG X Wx (evS run gl (if isComp e then .bad else .expr (compE cc fuel sc 0 e))))
      split
      · exact bad
      · rename_i h
        exact s_expr (ex 0 e).1 (by simpa using h)
    | Return r pos =>
      cases r with
      | none => exact s_retN
      | some e => exact s_ret (ex cc.rm e).1
    | If t a b pos => exact s_if (ex 0 t).2.1 (ss_map fun s _ => ih s) (ss_map fun s _ => ih s)
    | While t b el pos =>
      cases el with
      | nil =>
        show PS X _ (zG X Wx (evS run gl (.while (compE cc fuel sc 0 t) (b.map (compS cc sc n)))))
        rw [evS_while]
        exact s_while po (ex 0 t).2.1 (ss_map fun s _ => ih s) noFuel
      | cons _ _ => exact bad
    | For tg it b el pos =>
      cases el with
      | cons _ _ => exact bad
      | nil =>
        show PS X _ (zG X Wx (evS run gl (if walkOk tg it then match compPt cc sc 5 tg with
          | some p => .for p (compE cc fuel sc 0 it) (b.map (compS cc sc n))
          | none => .bad
        else .bad)))
        split
        · rename_i h
          split
          · rename_i p hp
            exact s_for po G.calm ((ex 0 it).2.2 tg h) (pt_ok G 5 tg p hp) (ss_map fun s _ => ih s) (fun x => by cases it <;> first | rfl | cases h)
          · exact bad
        · exact bad
    | Try b hs el fin pos =>
      show PS X _ (zG X Wx (evS run gl (match (generalizing := false) hs, el, fin with
        | [.ExceptHandler ty nm body _], [], [] => compTry cc sc (b.map (compS cc sc n)) ty nm body
        | _, _, _ => .bad)))
      clear bad
      split
      · rename_i ty nm body hp
        unfold compTry
        split
        · rename_i x xp y e rp
          split
          · rename_i i fx hi hx
            split
            · rename_i h hh
              split
              · rename_i hg
                obtain ⟨g1, g2⟩ := glob_ok hg
                obtain ⟨i1, i2, i3, i4⟩ := loc_slot G hi
                obtain ⟨⟨C, fI, c1, c2, hm, T, xf, xm⟩, hsu⟩ := G.exs x fx hx
                exact s_try (mb := evSs run gl (b.map (compS cc sc n))) ⟨i1, .inl i2, i3, i4, xf⟩ hst hfr hN i2 hm (G.g g1) g2 tk xm T.noN hh fun W pn xe tW pW => ss_map fun s _ => sound_s n (X := X.tr pn xe) tW pW hst hfr (G.tr pn xe) s
              · exact ps_bad
            · exact ps_bad
          · exact ps_bad
        · exact ps_bad
      · exact ps_bad
    | Pass pos => exact s_pass
    | Break pos => exact s_brk
    | Continue pos => exact s_cont
    | _ => exact bad
end
end Cr

namespace Cr
open PySem PySem.W PySem.Calls PyProof.Rows PySem.HandSPX L2
def isInit (x : Str) (a : Arguments) (b : List Stmt) : Bool := match a, b with
  | ⟨[], [⟨s1, none, _⟩, ⟨s2, none, _⟩], none, [], [], none, []⟩, [.Expr (.Call (.Attribute (.Call (.Name n1 _) [] [] _) n2 p3) [.Name n3 _] [] p5) _, .Assign [.Attribute (.Name n4 _) n5 _] (.Name n6 _) _] =>
    s1 == ("self" : Str) && (s2 == x && (n1 == ("super" : Str) && (n2 == ("__init__" : Str) && (n3 == x && (n4 == ("self" : Str) && (n5 == x && (n6 == x && p3.endLine == p5.line)))))))
  | _, _ => false
theorem isInit_ok {x : Str} {a : Arguments} {b : List Stmt} (h : isInit x a b = true) : ∃ q1 q2 p1 p2 p3 p4 p5 p6 p7 p8 p9 p10, a = initPs "self" x q1 q2 ∧ b = initB "self" x p1 p2 p3 p4 p5 p6 p7 p8 p9 p10 ∧ (p3.endLine == p5.line) = true := by
  unfold isInit at h
  split at h
  · rename_i s1 q1 s2 q2 n1 p1 p2 n2 p3 n3 p4 p5 p6 n4 p7 n5 p8 n6 p9 p10
    obtain ⟨h1, h⟩ := He.ba h
    obtain ⟨h2, h⟩ := He.ba h
    obtain ⟨h3, h⟩ := He.ba h
    obtain ⟨h4, h⟩ := He.ba h
    obtain ⟨h5, h⟩ := He.ba h
    obtain ⟨h6, h⟩ := He.ba h
    obtain ⟨h7, h⟩ := He.ba h
    obtain ⟨h8, h9⟩ := He.ba h
    have h1 := eq_of_beq h1
    have h2 := eq_of_beq h2
    have h3 := eq_of_beq h3
    have h4 := eq_of_beq h4
    have h5 := eq_of_beq h5
    have h6 := eq_of_beq h6
    have h7 := eq_of_beq h7
    have h8 := eq_of_beq h8
    subst h1 h2 h3 h4 h5 h6 h7 h8
    exact ⟨_, _, _, _, _, _, _, _, _, _, _, _, rfl, rfl, h9⟩
  · cases h
def clsXB (K : Frag) (C : Addr) : Bool := match K.lookup C with
  | some ⟨.type t, _, .cls cd, sl⟩ => decide (t = "type") && ((match cd.mro with
      | .ref c :: bm => decide (c = C) && refsVE bm
      | _ => false) && (cd.hasDict && (!cd.hasDel && (match sl.toList with
      | [_, _, _, _, some (.builtin n), _] => decide (n = "ValueError.__new__")
      | _ => false))))
  | _ => false
theorem clsXB_ok {K : Frag} {C : Addr} (h : clsXB K C = true) : ∃ nm q N bs bm sn sub ab col dd k0 k1 k2 k3 k5, K.lookup C = some (excClassObj nm q C N bs bm true sn sub ab col dd k0 k1 k2 k3 k5 "ValueError.__new__") ∧ refsVE bm = true := by
  unfold clsXB at h
  split at h
  · rename_i t dd cd sl e
    obtain ⟨h1, h⟩ := He.ba h
    obtain ⟨h2, h⟩ := He.ba h
    obtain ⟨h3, h⟩ := He.ba h
    obtain ⟨h4, h5⟩ := He.ba h
    have h1 := of_decide_eq_true h1
    subst h1
    obtain ⟨n1, n2, n3, n4, n5, n6, n7, n8, n9, n10, n11⟩ := cd
    dsimp only at h2 h3 h4
    subst h3
    have h4 : n11 = false := by simpa using h4
    subst h4
    split at h2
    · obtain ⟨h6, h7⟩ := He.ba h2
      have h6 := of_decide_eq_true h6
      subst h6
      split at h5
      · rename_i k0 k1 k2 k3 n k5 es
        have h8 := of_decide_eq_true h5
        subst h8
        have es : sl = #[k0, k1, k2, k3, some (.builtin "ValueError.__new__"), k5] := by
          have := congrArg List.toArray es
          simpa using this
        subst es
        exact ⟨_, _, _, _, _, _, _, _, _, _, _, _, _, _, _, e, h7⟩
      · cases h5
    · cases h2
  · cases h
def scopeXB (sc : Scope) (x : Str) : Bool := decide (sc.names.lookup ("super" : Str) = some .globalImplicit) && (decide (sc.names.lookup ("__class__" : Str) = some .free) && (decide (sc.names.lookup ("self" : Str) = some .local) && (decide (sc.names.lookup x = some .local) &&
  (sc.names.all (fun y => decide (y.2 ≠ .cell)) && (decide (sc.kind = .function) && (!sc.isGenerator && !sc.isCoroutine))))))
theorem scopeXB_ok {sc : Scope} {x : Str} (h : scopeXB sc x = true) : InitSc sc "self" x := by
  obtain ⟨h1, h⟩ := He.ba h
  obtain ⟨h2, h⟩ := He.ba h
  obtain ⟨h3, h⟩ := He.ba h
  obtain ⟨h4, h⟩ := He.ba h
  obtain ⟨h5, h⟩ := He.ba h
  obtain ⟨h6, h⟩ := He.ba h
  obtain ⟨h7, h8⟩ := He.ba h
  exact ⟨of_decide_eq_true h1, of_decide_eq_true h2, of_decide_eq_true h3, of_decide_eq_true h4, fun y hy => of_decide_eq_true (List.all_eq_true.mp h5 y hy), of_decide_eq_true h6, by simpa using h7, by simpa using h8⟩
def cellXB (K : Frag) (cc C : Addr) : Bool := match K.lookup cc with
  | some ⟨_, _, .cell (some (.ref c)), _⟩ => decide (c = C)
  | _ => false
theorem cellXB_ok {K : Frag} {cc C : Addr} (h : cellXB K cc C = true) : ∃ (cl : Value) (cld : Option Addr) (csl : Array (Option Value)), K.lookup cc = some ⟨cl, cld, .cell (some (.ref C)), csl⟩ := by
  unfold cellXB at h
  split at h
  · rename_i a b c d e
    have h := of_decide_eq_true h
    subst h
    exact ⟨_, _, _, e⟩
  · cases h
def codeXB (P : Program) (K : Frag) (cda : Addr) : Bool := match K.lookup cda with
  | some ⟨_, _, .fields vs, _⟩ => (match (vs[2]? : Option Value) with
    | some (Value.str file _) => (P.main.file : Str) == file
    | _ => false)
  | _ => false
theorem codeXB_ok {P : Program} {K : Frag} {cda : Addr} (h : codeXB P K cda = true) : ∃ (ccl : Value) (cdd : Option Addr) (vs : Array Value) (ccs : Array (Option Value)) (file : Str) (tf : Tok), K.lookup cda = some ⟨ccl, cdd, .fields vs, ccs⟩ ∧ vs[2]? = some (.str file tf) ∧ ((P.main.file : Str) == file) = true := by
  unfold codeXB at h
  split at h
  · rename_i a b vs d e
    split at h
    · rename_i file tf e2
      exact ⟨_, _, _, _, _, _, e, e2, h⟩
    · cases h
  · cases h
def fnXB (P : Program) (K : Frag) (C fI : Addr) (x : Str) : Bool := match K.lookup fI with
  | some ⟨_, _, .func fd, _⟩ => (match fd.body with
      | .stmts b => isInit x fd.params b
      | _ => false) && (scopeXB fd.scope x && (decide (fd.globals = mainGlobals) && (decide (fd.builtins = builtinsNs) && ((match fd.closure with
      | [(n, cc)] => n == ("__class__" : Str) && cellXB K cc C
      | _ => false) && ((match fd.defaults with
      | .none => true
      | _ => false) && (match fd.code with
      | .ref cda => codeIn K (.ref cda) fd.qualname && codeXB P K cda
      | _ => false))))))
  | _ => false
theorem fnXB_ok {P : Program} {K : Frag} {C fI : Addr} {x : Str} (hx : x ≠ "self") (h : fnXB P K C fI x = true) : ∃ cc cda,
    (∃ (oc : Value) (od : Option Addr) (osl : Array (Option Value)) (nm qual : Str) (scope : Scope) (kV doc pm : Value) (an : Option Addr) (ct : Value) (q1 q2 p1 p2 p3 p4 p5 p6 p7 p8 p9 p10 : Pos),
      K.lookup fI = some ⟨oc, od, .func (fnX nm qual (initPs "self" x q1 q2) (initB "self" x p1 p2 p3 p4 p5 p6 p7 p8 p9 p10) scope [("__class__", cc)] .none kV doc pm an (.ref cda) ct), osl⟩ ∧ codeIn K (.ref cda) qual = true ∧ InitSc scope "self" x ∧ x ≠ "self" ∧ (p3.endLine == p5.line) = true) ∧
    cellXB K cc C = true ∧ codeXB P K cda = true := by
  unfold fnXB at h
  split at h
  · rename_i oc od fd osl e
    obtain ⟨n1, n2, n3, n4, n5, n6, n7, n8, n9, n10, n11, n12, n13, n14, n15⟩ := fd
    dsimp only at h
    obtain ⟨h1, h⟩ := He.ba h
    obtain ⟨h2, h⟩ := He.ba h
    obtain ⟨h3, h⟩ := He.ba h
    obtain ⟨h4, h⟩ := He.ba h
    obtain ⟨h5, h⟩ := He.ba h
    obtain ⟨h6, h7⟩ := He.ba h
    have e6 : n6 = mainGlobals := of_decide_eq_true h3
    have e15 : n15 = builtinsNs := of_decide_eq_true h4
    subst e6
    subst e15
    split at h1
    · obtain ⟨q1, q2, p1, p2, p3, p4, p5, p6, p7, p8, p9, p10, e1, e2, e3⟩ := isInit_ok h1
      subst e1 e2
      split at h5
      · obtain ⟨h8, h9⟩ := He.ba h5
        have h8 := eq_of_beq h8
        subst h8
        split at h6
        · split at h7
          · obtain ⟨h10, h11⟩ := He.ba h7
            exact ⟨_, _, ⟨oc, od, osl, n1, n2, n5, n9, n10, n11, n12, n14, q1, q2, p1, p2, p3, p4, p5, p6, p7, p8, p9, p10, e, h10, scopeXB_ok h2, hx, e3⟩, h9, h11⟩
          · cases h7
        · cases h6
      · cases h5
    · cases h1
  · cases h
/-- all that is asked of the class named n with the field x -/
def supXB (P : Program) (n x : Str) (K : Frag) : Bool := clsXB K (He.ga K n) && (He.eqO (findIn K (.ref (He.ga K n)) "__setattr__") (some (some (.builtin "object.__setattr__"))) && (He.eqO (findIn K (.ref (He.ga K n)) x) (some none) &&
  (He.eqO (findIn K (.ref (He.ga K n)) "__init__") (some (some (.ref (He.ma K (He.ga K n) "__init__")))) && (decide (typeIn K (.ref (He.ma K (He.ga K n) "__init__")) = some (.type "function")) && (keepIn K (.ref (He.ga K n)) &&
  (decide (subIn K (.ref (He.ga K n)) (.type "BaseException") = some true) && (decide (typeIn K (.ref (He.ga K n)) = some (.type "type")) && (decide (subIn K (.ref (He.ga K n)) (.type "ValueError") = some true) &&
  (decide (mroIn K (He.ga K n) (.ref (He.ga K n)) = some true) && (He.eqO (ks_superIn K (He.ga K n) (He.ga K n) "__init__") (some (some (.builtin "ValueError.__init__"))) && (He.eqO (nsIn K cStatics "thirdparty.any") (some none) &&
  (fnXB P K (He.ga K n) (He.ma K (He.ga K n) "__init__") x && (xfB K (He.ga K n) && (decide (exmOne K (.ref (He.ga K n)) (.ref (He.ga K n)) = some true) &&
  (He.eqO (nsIn K mainGlobals n) (some (some (.ref (He.ga K n)))) && He.eqO (nsIn K mainGlobals "super") (some none))))))))))))))))
theorem supXB_ok {P : Program} {n x : Str} {K : Frag} (htop : (P.main.scope.names.lookup ("super" : Str)).isSome = false) (hb : BindOk x) (hx : x ≠ "self") (hd : (x == ("__debug__" : Str)) = false) (h : supXB P n x K = true) :
    (∃ fI cc cda, SupC P K (He.ga K n) fI cc cda x) ∧ XfC K (He.ga K n) ∧ exmOne K (.ref (He.ga K n)) (.ref (He.ga K n)) = some true ∧ nsIn K mainGlobals n = some (some (.ref (He.ga K n))) ∧ nsIn K mainGlobals "super" = some none := by
  obtain ⟨h1, h⟩ := He.ba h
  obtain ⟨h2, h⟩ := He.ba h
  obtain ⟨h3, h⟩ := He.ba h
  obtain ⟨h4, h⟩ := He.ba h
  obtain ⟨h5, h⟩ := He.ba h
  obtain ⟨h6, h⟩ := He.ba h
  obtain ⟨h7, h⟩ := He.ba h
  obtain ⟨h8, h⟩ := He.ba h
  obtain ⟨h9, h⟩ := He.ba h
  obtain ⟨h10, h⟩ := He.ba h
  obtain ⟨h11, h⟩ := He.ba h
  obtain ⟨h12, h⟩ := He.ba h
  obtain ⟨h13, h⟩ := He.ba h
  obtain ⟨h14, h⟩ := He.ba h
  obtain ⟨h15, h⟩ := He.ba h
  obtain ⟨h16, h17⟩ := He.ba h
  obtain ⟨cc, cda, hf, hcell, hcode⟩ := fnXB_ok hx h13
  exact ⟨⟨_, cc, cda, ⟨clsXB_ok h1, He.eqO_ok h2, He.eqO_ok h3, He.eqO_ok h4, of_decide_eq_true h5, h6, of_decide_eq_true h7, of_decide_eq_true h8, of_decide_eq_true h9, of_decide_eq_true h10, He.eqO_ok h11, He.eqO_ok h12, hf, codeXB_ok hcode, cellXB_ok hcell, htop, hb, hd⟩⟩,
    xfB_ok h14, of_decide_eq_true h15, He.eqO_ok h16, He.eqO_ok h17⟩
abbrev AlC : Type := He.AlD × Bool
def frC (n : Nat) (g : Addr → Option Obj) : Frag := He.frG g (He.asD g n ++ [cStatics])
def obsC (n : Nat) (fa : List He.Fa) (fn : List He.DefD) (ex : Frag → Bool) (g : Addr → Option Obj) : AlC := (He.obsD fa fn (frC n g), ex (frC n g))
structure SaysC (fa : List He.Fa) (fn : List He.DefD) (ex : Frag → Bool) (K : Frag) : Prop where
  d : He.SaysD fa fn K
  more : ex K = true
def hookC (n : Nat) (fa : List He.Fa) (fn : List He.DefD) (ex : Frag → Bool) : Hook where
  α := AlC
  obs := fun s => obsC n fa fn ex s.heap.get?
  val := fun _ => (He.valD fn, true)
  says := fun _ h => ∃ K : Frag, K.In h ∧ SaysC fa fn ex K
  of := fun _ _ e => ⟨_, He.frG_in, ⟨congrArg (fun z : AlC => z.1) e, congrArg (fun z : AlC => z.2) e⟩⟩
  keeps := fun _ _ _ ⟨K, hK, c⟩ k => ⟨K, Frag.In.keeps hK k, c⟩
theorem obsC_eq {n : Nat} {fa : List He.Fa} {fn : List He.DefD} {ex : Frag → Bool} {g : Addr → Option Obj} {s : Shared} (h : ∀ a, g a = s.heap.get? a) : obsC n fa fn ex g = (hookC n fa fn ex).obs s := by
  have e : g = s.heap.get? := funext h
  rw [e] <;> rfl
end Cr

namespace Cr
open PySem L2
/-- the names of a program: its defs, its constants, those called with cells, its own exceptions, whether gcd is math's -/
structure GE where
  fn : Str → Bool
  gb : Str → Bool
  im : Str → Bool
  ex : Str → Option Str
  gcd : Bool
def GE.cc (g : GE) (N : List Str) (mv : Str → Nat) (rm : Nat) : CC := ⟨N, g.fn, g.gb, mv, rm, g.im, g.ex, g.gcd⟩
/-- what is known of a def of the program -/
structure FunC (K : KF) (mg : Str → Option Value) (Γ : Prog) (ge : GE) (f : Str) : Prop where
  ex : ∃ (st : Stmt) (a : Addr) (fd : FuncData) (N ps : List Str) (mv : Str → Nat) (rm : Nat), mg f = some (.ref a) ∧ FunD K f f (defArgs st) (defBody st) (defScope st) [] [] a fd ∧ FnScope N ps (defScope st) ∧ Binds K fd ps [] ∧
    Γ.fn f = some ⟨ps.length, N.length, (defBody st).map (compS (ge.cc N mv rm) (defScope st) fuel)⟩
structure PF (P : Program) (K : KF) (mg : Str → Option Value) (Γ : Prog) (ge : GE) : Prop where
  funs : ∀ f, ge.fn f = true → FunC K mg Γ ge f
  gls : ∀ x d, ge.gb x = true → Γ.gl x = some d → ∃ u v, mg x = some u ∧ RelV v u ∧ ∀ B, Den K B d v
  bis : ∀ x, ge.fn x = false → isBiName x → mg x = none
  gcd : ge.gcd = true → mg "gcd" = some (.builtin "math.gcd")
  exs : ∀ c f, ge.ex c = some f → (∃ C fI cc cda, mg c = some (.ref C) ∧ SupC P K C fI cc cda f ∧ XfC K C ∧ PySem.W.exmOne K (.ref C) (.ref C) = some true) ∧ mg "super" = none
theorem startE_ok {K : KF} {c : Cfg} {N : List Str} : ∀ {ws : List W} {vs : List V}, WDenL K c ws vs → ERel K c (startE N.length ws) (L2.start N vs) := fun {ws vs} d => by
  have hl := d.length
  have get : ∀ {ws : List W} {vs : List V}, WDenL K c ws vs → ∀ (i : Nat) (w : W), ws[i]? = some w → ∃ v, vs[i]? = some v ∧ WDen K c w v := by
    intro ws vs d
    induction d with
    | nil => intro i w q; simp at q
    | cons h l ih =>
      intro i w q
      cases i with
      | zero =>
        simp at q
        subst q
        exact ⟨_, rfl, h⟩
      | succ i => simpa using ih i w (by simpa using q)
  refine ⟨by simp [startE, L2.start, hl], fun i w q => ?_⟩
  have q : (ws.map some ++ List.replicate (N.length - ws.length) none)[i]? = some (some w) := q
  by_cases hi : i < ws.length
  · rw [List.getElem?_append_left (by simpa using hi), List.getElem?_map, List.getElem?_eq_getElem hi] at q
    obtain ⟨v, h1, h2⟩ := get d i w (by rw [List.getElem?_eq_getElem hi]; simpa using q)
    refine ⟨v, ?_, h2⟩
    show (vs.map some ++ List.replicate (N.length - vs.length) none)[i]? = some (some v)
    rw [List.getElem?_append_left (by rw [List.length_map, ← hl]; exact hi), List.getElem?_map, h1]
    rfl
  · rw [List.getElem?_append_right (by simp; omega)] at q
    rw [List.getElem?_replicate] at q
    split at q <;> cases q
theorem retR_post {K : KF} {mg : Str → Option Value} {c : Cfg} {H : Hp} {r : SR} {Q : VK} {E : XK} (p : Post K mg c H (retR r) (RW K) Q E) : PostS K mg (fun cls d _ H => E cls d H) { nx := fun _ H' => Q .non H', rt := Q } c H r := by
  cases r with
  | bad => exact p.elim
  | ok f ρ st =>
    cases f with
    | next => exact fun c' H' σ' h1 h2 h3 h4 => p c' H' .non h1 h2 h3 .non
    | ret w => exact fun c' H' v h1 h2 h3 h4 => p c' H' v h1 h2 h3 h4
    | exc x d => exact fun c' H' σ' cls da h1 h2 h3 h4 h5 => p c' H' cls da h1 h2 h3 h5
    | brk => exact p.elim
    | cont => exact p.elim
theorem spR_len {K : KF} {mg : Str → Option Value} {Γ : Prog} {n : Nat} {f : Str} {fd : Fn} (h : Γ.fn f = some fd) {vs : List V} {H : Hp} {Q : VK} {E : XK} (s : spR K mg (run Γ (n + 1)) f vs H Q E) :
    ∃ c ws, vs.length = fd.np ∧ Ok K c H ∧ WDenL K c ws vs ∧ Post K mg c H (retR (evSs (run Γ n) Γ.gl fd.body (startE fd.nn ws) c.st)) (RW K) Q E := by
  obtain ⟨c, ws, o, d, p⟩ := s
  have e : run Γ (n + 1) f ws = if decide (ws.length = fd.np) then fun s => retR (evSs (run Γ n) Γ.gl fd.body (startE fd.nn ws) s) else M.bad := by
    show (match Γ.fn f with | none => M.bad | some fd => if decide (ws.length = fd.np) then fun s => retR (evSs (run Γ n) Γ.gl fd.body (startE fd.nn ws) s) else M.bad) = _
    rw [h]
  rw [e] at p
  by_cases hl : ws.length = fd.np
  · rw [decide_eq_true hl, if_pos rfl] at p
    exact ⟨c, ws, by rw [← d.length]; exact hl, o, d, p⟩
  · rw [decide_eq_false hl] at p
    exact p.elim
/-- one def, its callees at the level below -/
theorem fn_step {P : Program} {w : World} {K : KF} {mg : Str → Option Value} {base : Heap} {Γ : Prog} {ge : GE} (T : PF P K mg Γ ge) {n : Nat} (ih : ∀ X : Cx, X.prog = P → X.w = w → X.K = K → X.mg = mg → X.base = base → ∀ g, ge.fn g = true → Fnk X (run Γ n) n g)
    {f : Str} {st : Stmt} {a : Addr} {fd : FuncData} {N ps : List Str} {mv : Str → Nat} {rm : Nat} (F : FunD K f f (defArgs st) (defBody st) (defScope st) [] [] a fd) (S : FnScope N ps (defScope st))
    (hg : Γ.fn f = some ⟨ps.length, N.length, (defBody st).map (compS (ge.cc N mv rm) (defScope st) fuel)⟩) : FnOk P w K mg base (L2.CX P w) (n + 1) a fd ps (spR K mg (run Γ (n + 1)) f) := by
  refine F.ok S (fun vs H Q E s => ?_) fun cdv A outer s H vs Q E hr sp => ?_
  · obtain ⟨_, _, hl, _⟩ := spR_len hg s
    exact hl
  · obtain ⟨c, ws, hl, o, d, p⟩ := spR_len hg sp
    have G : GX (run Γ n) Γ.gl (ge.cc N mv rm) n (defScope st) (defScope st) (cxOf (L2.CX P w) P w K mg base N f (defScope st) a cdv A outer s H E) :=
      ⟨rfl, rfl, S.nd, rfl, fun _ h => h, fun _ h => ⟨h, rfl⟩, hr, T.gls, fun g hg => ih _ rfl rfl rfl rfl rfl g hg, T.bis, T.gcd, fun c f h => ⟨(T.exs c f h).1, (T.exs c f h).2⟩⟩
    refine ⟨_, ss_map (f := compS (ge.cc N mv rm) (defScope st) fuel) fun st' _ => sound_s fuel (Wx := fun cls d _ H => E cls d H) (L2.takes_of rfl rfl rfl rfl) (L2.passes_of rfl) rfl rfl G st', ?_⟩
    exact ⟨c, _, o, startE_ok d, retR_post p⟩
/-- THE THEOREM about defs -/
theorem fn_sound {P : Program} {w : World} {K : KF} {mg : Str → Option Value} {base : Heap} {Γ : Prog} {ge : GE} (T : PF P K mg Γ ge) : ∀ (n : Nat) (f : Str), ge.fn f = true →
    ∃ (a : Addr) (fd : FuncData) (ps : List Str), mg f = some (.ref a) ∧ PySem.W.keepIn K (.ref a) = true ∧ Binds K fd ps [] ∧ FnOk P w K mg base (L2.CX P w) n a fd ps (spR K mg (run Γ n) f)
  | 0, f, h => by
    obtain ⟨st, a, fd, N, ps, mv, rm, hm, F, S, B, hg⟩ := (T.funs f h).ex
    have no : ∀ {vs H Q E}, ¬ spR K mg (run Γ 0) f vs H Q E := fun ⟨_, _, _, _, p⟩ => p
    exact ⟨a, fd, ps, hm, F.kp, B, fun _ _ _ _ s => (no s).elim, fun _ _ _ _ _ _ _ _ _ _ _ _ _ s => (no s).elim⟩
  | n + 1, f, h => by
    obtain ⟨st, a, fd, N, ps, mv, rm, hm, F, S, B, hg⟩ := (T.funs f h).ex
    exact ⟨a, fd, ps, hm, F.kp, B, fn_step T (fun X e1 e2 e3 e4 e5 g hg => ⟨by subst e1 e2 e3 e4 e5; exact fn_sound T n g hg⟩) F S hg⟩
theorem fn_all {P : Program} {w : World} {K : KF} {mg : Str → Option Value} {base : Heap} {Γ : Prog} {ge : GE} (T : PF P K mg Γ ge) (n : Nat) (X : Cx) (e1 : X.prog = P) (e2 : X.w = w) (e3 : X.K = K) (e4 : X.mg = mg) (e5 : X.base = base) (g : Str) (hg : ge.fn g = true) : Fnk X (run Γ n) n g := by
  subst e1 e2 e3 e4 e5
  exact ⟨fn_sound T n g hg⟩
structure DS where
  name : Str
  st : Stmt
  N : List Str
  ps : List Str
  mv : List (Str × Nat)
  rm : Nat
def mvOf (l : List (Str × Nat)) (x : Str) : Nat := (l.lookup x).getD 0
def DS.dd (d : DS) : He.DefD := ⟨(d.name, none), d.name, d.name, defArgs d.st, defBody d.st, defScope d.st, [], []⟩
structure DS.Ok (Γ : Prog) (ge : GE) (d : DS) : Prop where
  sc : FnScope d.N d.ps (defScope d.st)
  bind : ∀ (kV doc pm : Value) (an : Option Addr) (cdv ct : Value) (us : List Value), us.length = d.ps.length → bindArgs (PySem.W.fnOf d.name d.name (defArgs d.st) (defBody d.st) (defScope d.st) .none kV doc pm an cdv ct) ⟨us, []⟩ = pure (d.ps.zip us)
  comp : Γ.fn d.name = some ⟨d.ps.length, d.N.length, (defBody d.st).map (compS (ge.cc d.N (mvOf d.mv) d.rm) (defScope d.st) fuel)⟩
def biNames : List Str := ["len", "all", "any", "int", "str", "list", "abs", "max", "min", "sum", "bool", "tuple", "range", "enumerate", "zip", "isinstance", "sorted"]
theorem biNames_mem {x : Str} (h : isBiName x) : x ∈ biNames := by
  rcases h with ⟨f, rfl⟩ | ⟨t, rfl⟩ | rfl | rfl | rfl | rfl
  · cases f <;> decide
  · cases t <;> decide
  all_goals decide
/-- names of the top that stand for texts and numbers -/
inductive GV where
  | str (x : List Nat)
  | int (i : Int)
def GV.d : GV → D
  | .str x => .str x
  | .int i => .int i
def GV.fa (x : Str) : GV → He.Fa
  | .str z => .str x ⟨z.toArray⟩
  | .int i => .int x i
def facts (defs : List DS) (gvs : List (Str × GV)) : List He.Fa := (defs.map fun d => .glo d.name) ++ (biNames.map .free ++ gvs.map fun p => p.2.fa p.1)
def fnIn (defs : List DS) (x : Str) : Bool := defs.any fun d => d.name == x
def gbIn (gvs : List (Str × GV)) (x : Str) : Bool := gvs.any fun p => p.1 == x
def glOf (gvs : List (Str × GV)) (x : Str) : Option D := (gvs.lookup x).map GV.d
def progOf (fn : Str → Option Fn) (gvs : List (Str × GV)) : Prog := ⟨fn, glOf gvs⟩
theorem lookup_mem {α : Type} : ∀ {l : List (Str × α)} {x : Str} {y : α}, l.lookup x = some y → (x, y) ∈ l
  | (k, v) :: r, x, y, h => by
    rw [List.lookup_cons] at h
    cases hb : x == k with
    | true =>
      rw [hb] at h
      have e : v = y := Option.some.inj h
      have e2 : x = k := eq_of_beq hb
      rw [e, e2]
      exact List.mem_cons_self ..
    | false =>
      rw [hb] at h
      exact List.mem_cons_of_mem _ (lookup_mem h)
def exOf (exs : List (Str × Str)) (x : Str) : Option Str := exs.lookup x
def geOf (defs : List DS) (gvs : List (Str × GV)) (im : Str → Bool) (exs : List (Str × Str)) (gc : Bool) : GE := ⟨fnIn defs, gbIn gvs, im, exOf exs, gc⟩
def gcdB (K : KF) : Bool := He.eqO (PySem.W.nsIn K mainGlobals "gcd") (some (some (.builtin "math.gcd")))
/-- the one Bool more -/
def moreB (P : Program) (exs : List (Str × Str)) (gc : Bool) (K : KF) : Bool := exs.all (fun p => supXB P p.1 p.2 K) && (!gc || gcdB K)
/-- what is asked of the exceptions' names -/
structure ExNames (P : Program) (exs : List (Str × Str)) : Prop where
  top : (P.main.scope.names.lookup ("super" : Str)).isSome = false
  flds : ∀ p ∈ exs, BindOk p.2 ∧ p.2 ≠ "self" ∧ (p.2 == ("__debug__" : Str)) = false
theorem pf_of {P : Program} {K : KF} {mg : Str → Option Value} {h : Heap} {defs : List DS} {gvs : List (Str × GV)} {fn : Str → Option Fn} {im : Str → Bool} {exs : List (Str × Str)} {gc : Bool} (X : K.In h) (G : h.Ns mainGlobals mg) (c : He.SaysD (facts defs gvs) (defs.map DS.dd) K) (cm : moreB P exs gc K = true) (en : ExNames P exs)
    (ok : ∀ d ∈ defs, d.Ok (progOf fn gvs) (geOf defs gvs im exs gc)) : PF P K mg (progOf fn gvs) (geOf defs gvs im exs gc) := by
  obtain ⟨m1, m2⟩ := He.ba cm
  refine ⟨fun f hf => ?_, fun x d _ hd => ?_, fun x _ hx => ?_, fun hg => ?_, fun n f hn => ?_⟩
  · obtain ⟨d, hd, e⟩ := List.any_eq_true.mp hf
    have e : d.name = f := eq_of_beq e
    subst e
    obtain ⟨fd, F⟩ := He.SaysD.defs c (d := d.dd) (List.mem_map.mpr ⟨d, hd, rfl⟩)
    have F : FunD K d.name d.name (defArgs d.st) (defBody d.st) (defScope d.st) [] [] (He.ga K d.name) fd := F
    have O := ok d hd
    exact ⟨d.st, _, fd, d.N, d.ps, _, d.rm, He.glo_ok X G (He.SaysD.facts c (List.mem_append_left _ (List.mem_map.mpr ⟨d, hd, rfl⟩))), F, O.sc, F.bindsN O.bind, O.comp⟩
  · obtain ⟨g, hg, rfl⟩ := Option.map_eq_some_iff.mp (show (gvs.lookup x).map GV.d = some d from hd)
    have m : g.fa x ∈ facts defs gvs := List.mem_append_right _ (List.mem_append_right _ (List.mem_map.mpr ⟨(x, g), lookup_mem hg, rfl⟩))
    have k := He.SaysD.facts c m
    cases g with
    | str z =>
      obtain ⟨t, e⟩ := He.str_ok X G k
      exact ⟨_, .str ⟨z.toArray⟩, e, ⟨t, rfl⟩, fun B => .str z⟩
    | int i =>
      obtain ⟨t, e⟩ := He.int_ok X G k
      exact ⟨_, .int i, e, ⟨t, rfl⟩, fun B => .int i⟩
  · exact He.free_ok X G (He.SaysD.facts c (List.mem_append_right _ (List.mem_append_left _ (List.mem_map.mpr ⟨x, biNames_mem hx, rfl⟩))))
  · have hg : gc = true := hg
    rw [hg] at m2
    exact PySem.W.mg_of X G (He.eqO_ok (show gcdB K = true from m2))
  · have hm : (n, f) ∈ exs := lookup_mem (show exs.lookup n = some f from hn)
    obtain ⟨b1, b2, b3⟩ := en.flds (n, f) hm
    obtain ⟨⟨fI, cc, cda, T⟩, xf, xm, g1, g2⟩ := supXB_ok (n := n) en.top b1 b2 b3 (List.all_eq_true.mp m1 (n, f) hm)
    exact ⟨⟨_, fI, cc, cda, PySem.W.mg_of X G g1, T, xf, xm⟩, PySem.W.mg_none_of X G g2⟩
theorem denl_ints {K : KF} {B : Hp} : ∀ ns : List Int, DenL K B (ns.map D.int) (ns.map V.int)
  | [] => .nil
  | n :: ns => .cons (.int n) (denl_ints ns)
/-- what the law's def promises -/
def spTrue (K : KF) (Γ : Prog) (k : Nat) : Sp := fun vs H Q _ => ∃ c ws st, Ok K c H ∧ WDenL K c ws vs ∧ run Γ k "law" ws c.st = .ok (.d (.bool true)) st ∧ ∀ H', Q (.bl true) H'
theorem law_end {l : PySem.W.OpenLaw} {k : Nat} {q : Program} {loose : List Str} {XP : (Str → Option Value) → Heap → Prop} {d : DefRec} {defs : List DS} {gvs : List (Str × GV)} {fn : Str → Option Fn} {im : Str → Bool} {exs : List (Str × Str)} {gc : Bool}
    (hn : l.most = some 63) (hdf : d.params.defaults = []) (hnm : d.name = ("law" : Str)) (hr : Room (k + 1) callerA) (en : ExNames l.prog exs) (ok : ∀ d ∈ defs, d.Ok (progOf fn gvs) (geOf defs gvs im exs gc)) {dl : DS} (hdl : dl ∈ defs) (hdn : dl.name = ("law" : Str)) (hdp : dl.ps = [("script" : Str)])
    (main : ∀ ns : List Int, ns.length ≤ 63 → (∀ z ∈ ns, Builtin.Int.intBits z ≤ 1048576) → ∃ st, run (progOf fn gvs) (k + 1) "law" [.d (.rol (ns.map .int))] [] = .ok (.d (.bool true)) st) :
    PySem.W.WalkO q loose XP (fun w h => ∃ K : KF, K.In h ∧ SaysC (facts defs gvs) (defs.map DS.dd) (moreB l.prog exs gc) K) l.row.toRowW d [] (fun f vs => PySem.call f vs) := by
  refine Att.attach_callB hn hdf fun w s₀ s₁ mg mb fa o pm cd doc a vs ns G Y ho hd hcd hmg hobj hints hlen hbits hg => ?_
  obtain ⟨K, KX, ⟨c, cm⟩⟩ := Y
  have T := pf_of KX G.T.g c cm en ok
  have hin : fnIn defs "law" = true := List.any_eq_true.mpr ⟨dl, hdl, by rw [hdn]; rfl⟩
  obtain ⟨fd, F⟩ := He.SaysD.defs c (d := dl.dd) (List.mem_map.mpr ⟨dl, hdl, rfl⟩)
  have F : FunD K dl.name dl.name (defArgs dl.st) (defBody dl.st) (defScope dl.st) [] [] (He.ga K dl.name) fd := F
  have hga := He.glo_ok KX G.T.g (He.SaysD.facts c (f := .glo dl.name) (List.mem_append_left _ (List.mem_map.mpr ⟨dl, hdl, rfl⟩)))
  rw [hdn] at hga
  rw [hnm] at hmg
  have efa : He.ga K dl.name = fa := by
    rw [hdn]
    exact (V.ref.inj (congrArg V.ref (Value.ref.inj (Option.some.inj (hga.symm.trans hmg)))))
  rw [efa] at F
  have O := ok dl hdl
  have hb : ∀ (s : Shared) (u : Value), BindsTo s fd ⟨[u], []⟩ [("script", u)] := fun s u => by
    have q := F.bindsA O.bind s [u] (by rw [hdp]; rfl)
    rw [hdp] at q
    exact q
  have hF : ∀ base : Heap, K.In base → base.Ns mainGlobals mg → FnOk l.prog w K mg base (L2.CX l.prog w) (k + 1) fa fd ["script"] (spTrue K (progOf fn gvs) (k + 1)) := fun base _ _ => by
    have FO := fn_step (P := l.prog) (w := w) (base := base) T (n := k) (fn_all T k) F O.sc O.comp
    rw [hdp, hdn] at FO
    refine FO.imp fun vs H Q E ⟨c, ws, st, o, dw, e, q⟩ => ⟨c, ws, o, dw, ?_⟩
    rw [e]
    intro c' H' v _ _ _ dv
    have dv : Den K c'.B (.bool true) v := dv
    cases dv
    exact q H'
  exact law_call KX G.T.g G.T.b G.T.builtins G.T.nolimit hg hobj hints (Nat.le_trans hlen (by decide)) hr hF hb
    (fun H hO hS => by
      obtain ⟨st, e⟩ := main ns hlen hbits
      exact ⟨⟨H, [], []⟩, _, st, ⟨Ex.refl H, rfl, by simp, fun n a cell h => by simp at h, fun a ha => by cases ha⟩, .cons (x := .d (.rol (ns.map D.int))) (show Den K H (.rol (ns.map D.int)) (.ref a) from .rol hS (denl_ints ns)) .nil, e, fun _ => rfl⟩)
    fun H e s' h => by
      obtain ⟨_, _, _, _, _, _, _, _, _, _, _, _, z⟩ := h
      exact z
end Cr

namespace Cr
open PySem
theorem run_fn {Γ : Prog} {n : Nat} {f : Str} {fd : Fn} {ws : List W} (h : Γ.fn f = some fd) (hl : ws.length = fd.np) : run Γ (n + 1) f ws = fun s => retR (evSs (run Γ n) Γ.gl fd.body (startE fd.nn ws) s) := by
  show (match Γ.fn f with | none => M.bad | some fd => if decide (ws.length = fd.np) then fun s => retR (evSs (run Γ n) Γ.gl fd.body (startE fd.nn ws) s) else M.bad) = _
  rw [h]
  simp [hl]
section
variable {α β γ : Type} {run : Str → List W → M W} {gl : Str → Option D}
@[simp] theorem pure_bindM (a : α) (k : α → M β) : M.bind (M.pure a) k = k a := (rfl)
@[simp] theorem bad_bindM (k : α → M β) : M.bind M.bad k = M.bad := (rfl)
@[simp] theorem bind_assocM (m : M α) (f : α → M β) (g : β → M γ) : M.bind (M.bind m f) g = M.bind m fun a => M.bind (f a) g := by
  funext s
  show ((m s).andThen f).andThen g = (m s).andThen fun a s => (f a s).andThen g
  cases m s <;> rfl
@[simp] theorem ite_bindM {c : Prop} [Decidable c] (a b : M α) (k : α → M β) : M.bind (if c then a else b) k = if c then M.bind a k else M.bind b k := by
  split <;> rfl
@[simp] theorem lift_some (a : α) : lift (some a) = M.pure a := (rfl)
@[simp] theorem lift_none : (lift none : M α) = M.bad := (rfl)
@[simp] theorem lift_ite {c : Prop} [Decidable c] (a b : Option α) : lift (if c then a else b) = if c then lift a else lift b := by
  split <;> rfl
@[simp] theorem guard_true : guard true = M.pure () := (rfl)
@[simp] theorem guard_false : guard false = M.bad := (rfl)
@[simp] theorem peek_d (x : D) : peek (.d x) = M.pure x := (rfl)
@[simp] theorem peekS_d (x : D) : peekS (.d x) = M.pure x := (rfl)
@[simp] theorem idxW_d (x y : D) : idxW (.d x) y = M.bind (lift (idxD x y)) fun z => M.pure (.d z) := by
  funext s
  show (match idxD x y with | some y => Res.ok (W.d y) s | none => .bad) = ((lift (idxD x y) s).andThen fun z => M.pure (.d z))
  cases idxD x y <;> rfl
@[simp] theorem freeze_d (x : D) : freeze (.d x) = M.pure x := (rfl)
@[simp] theorem alloc_f (x : D) : alloc false x = M.pure (.d x) := by
  funext s; cases x <;> rfl
@[simp] theorem freezes_nil : freezes [] = M.pure [] := (rfl)
@[simp] theorem freezes_cons (w : W) (ws : List W) : freezes (w :: ws) = M.bind (freeze w) fun x => M.bind (freezes ws) fun xs => M.pure (x :: xs) := (rfl)
@[simp] theorem peeks_nil : peeks [] = M.pure [] := (rfl)
@[simp] theorem peeks_cons (w : W) (ws : List W) : peeks (w :: ws) = M.bind (peek w) fun x => M.bind (peeks ws) fun xs => M.pure (x :: xs) := (rfl)
@[simp] theorem getVar_0 (w : W) (ρ : Env) : getVar 0 (some w :: ρ) = M.pure w := (rfl)
@[simp] theorem getVar_s (i : Nat) (o : Option W) (ρ : Env) : getVar (i + 1) (o :: ρ) = getVar i ρ := (rfl)
@[simp] theorem setVar_0 (w : W) (o : Option W) (ρ : Env) : setVar 0 w (o :: ρ) = some w :: ρ := (rfl)
@[simp] theorem setVar_s (i : Nat) (w : W) (o : Option W) (ρ : Env) : setVar (i + 1) w (o :: ρ) = o :: setVar i w ρ := (rfl)
@[simp] theorem smL_nil (ρ : Env) : smL [] ρ = M.pure [] := (rfl)
@[simp] theorem smL_cons (e : Sm) (es : List Sm) (ρ : Env) : smL (e :: es) ρ = M.bind (e.v ρ) fun w => M.bind (smL es ρ) fun ws => M.pure (w :: ws) := (rfl)
@[simp] theorem sems_nil : sems run gl [] = [] := by simp only [sems]
@[simp] theorem sems_cons (e : E) (es : List E) : sems run gl (e :: es) = sem run gl e :: sems run gl es := by simp only [sems]
@[simp] theorem ofV_v (v : Env → M W) : (ofV v).v = v := (rfl)
@[simp] theorem ofV_t (v : Env → M W) : (ofV v).t = vT v := (rfl)
@[simp] theorem ofV_i (v : Env → M W) : (ofV v).i = vI v := (rfl)
@[simp] theorem vT_eq (v : Env → M W) (ρ : Env) : vT v ρ = M.bind (v ρ) fun w => M.bind (peekS w) fun x => lift (truth x) := (rfl)
@[simp] theorem vI_eq (v : Env → M W) (ρ : Env) : vI v ρ = M.bind (v ρ) fun w => M.bind (freeze w) fun x => lift (walkD x) := (rfl)
@[simp] theorem evE_eq (e : E) (ρ : Env) : evE run gl e ρ = (sem run gl e).v ρ := (rfl)
@[simp] theorem evT_eq (e : E) (ρ : Env) : evT run gl e ρ = (sem run gl e).t ρ := (rfl)
@[simp] theorem evI_eq (e : E) (ρ : Env) : evI run gl e ρ = (sem run gl e).i ρ := (rfl)
@[simp] theorem partW_int (i : Int) : partW (.d (.int i)) = M.pure (some i) := (rfl)
/-- statement by statement -/
def andS (r : SR) (k : Env → Store → SR) : SR := match r with
  | .ok .next ρ s => k ρ s
  | r => r
@[simp] theorem andS_next (ρ : Env) (s : Store) (k : Env → Store → SR) : andS (.ok .next ρ s) k = k ρ s := (rfl)
@[simp] theorem andS_ret (w : W) (ρ : Env) (s : Store) (k : Env → Store → SR) : andS (.ok (.ret w) ρ s) k = .ok (.ret w) ρ s := (rfl)
@[simp] theorem andS_brk (ρ : Env) (s : Store) (k : Env → Store → SR) : andS (.ok .brk ρ s) k = .ok .brk ρ s := (rfl)
@[simp] theorem andS_cont (ρ : Env) (s : Store) (k : Env → Store → SR) : andS (.ok .cont ρ s) k = .ok .cont ρ s := (rfl)
@[simp] theorem andS_exc (c : Str) (d : Option (Str × D)) (ρ : Env) (s : Store) (k : Env → Store → SR) : andS (.ok (.exc c d) ρ s) k = .ok (.exc c d) ρ s := (rfl)
@[simp] theorem andS_bad (k : Env → Store → SR) : andS .bad k = .bad := (rfl)
@[simp] theorem andS_ite {c : Prop} [Decidable c] (a b : SR) (k : Env → Store → SR) : andS (if c then a else b) k = if c then andS a k else andS b k := by
  split <;> rfl
@[simp] theorem evSs_nil (ρ : Env) (s : Store) : evSs run gl [] ρ s = .ok .next ρ s := by simp only [evSs]
@[simp] theorem evSs_cons (st : S) (ss : List S) (ρ : Env) (s : Store) : evSs run gl (st :: ss) ρ s = andS (evS run gl st ρ s) (evSs run gl ss) := by
  rw [evSs]
  rfl
/-- an expression ahead of a statement -/
def exM (m : M α) (ρ : Env) (k : α → Store → SR) (s : Store) : SR := exS (m s) ρ k
@[simp] theorem exM_pure (a : α) (ρ : Env) (k : α → Store → SR) (s : Store) : exM (M.pure a) ρ k s = k a s := (rfl)
@[simp] theorem exM_bad (ρ : Env) (k : α → Store → SR) (s : Store) : exM M.bad ρ k s = .bad := (rfl)
@[simp] theorem exM_ite {c : Prop} [Decidable c] (a b : M α) (ρ : Env) (k : α → Store → SR) (s : Store) : exM (if c then a else b) ρ k s = if c then exM a ρ k s else exM b ρ k s := by
  split <;> rfl
theorem exM_ok {m : M α} {ρ : Env} {k : α → Store → SR} {s s' : Store} {a : α} (h : m s = .ok a s') : exM m ρ k s = k a s' := by
  unfold exM
  rw [h]
  rfl
@[simp] theorem evS_asg (p : Pt) (e : E) (ρ : Env) (s : Store) : evS run gl (.asg p e) ρ s = exM ((sem run gl e).v ρ) ρ (fun w s => asgS (bindPt p w ρ) s) s := by simp only [evS, exM, evE]
@[simp] theorem evS_expr (e : E) (ρ : Env) (s : Store) : evS run gl (.expr e) ρ s = exM ((sem run gl e).v ρ) ρ (fun w s => .ok .next ρ s) s := by simp only [evS, exM, evE]
@[simp] theorem evS_ret (e : E) (ρ : Env) (s : Store) : evS run gl (.ret e) ρ s = exM ((sem run gl e).v ρ) ρ (fun w s => .ok (.ret w) ρ s) s := by simp only [evS, exM, evE]
@[simp] theorem evS_ite (c : E) (a b : List S) (ρ : Env) (s : Store) : evS run gl (.ite c a b) ρ s = exM ((sem run gl c).t ρ) ρ (fun t s => if t then evSs run gl a ρ s else evSs run gl b ρ s) s := by simp only [evS, exM, evT]
@[simp] theorem evS_for (p : Pt) (it : E) (b : List S) (ρ : Env) (s : Store) : evS run gl (.for p it b) ρ s = exM ((sem run gl it).i ρ) ρ (fun xs s => forLoop (forBody p (evSs run gl b)) xs ρ s) s := by simp only [evS, exM, evI]
@[simp] theorem evS_pass (ρ : Env) (s : Store) : evS run gl .pass ρ s = .ok .next ρ s := by simp only [evS]
@[simp] theorem evS_brk (ρ : Env) (s : Store) : evS run gl .brk ρ s = .ok .brk ρ s := by simp only [evS]
@[simp] theorem evS_cont (ρ : Env) (s : Store) : evS run gl .cont ρ s = .ok .cont ρ s := by simp only [evS]
@[simp] theorem asgS_some (ρ : Env) (s : Store) : asgS (some ρ) s = .ok .next ρ s := (rfl)
@[simp] theorem bindPt_name (i : Nat) (w : W) (ρ : Env) : bindPt (.name i) w ρ = some (setVar i w ρ) := by simp only [bindPt]
@[simp] theorem bindPt_tup (ps : List Pt) (xs : List D) (ρ : Env) : bindPt (.tup ps) (.d (.tup xs)) ρ = bindPts ps xs ρ := by simp only [bindPt]
@[simp] theorem bindPts_nil (ρ : Env) : bindPts [] [] ρ = some ρ := by simp only [bindPts]
@[simp] theorem bindPts_cons (p : Pt) (ps : List Pt) (x : D) (xs : List D) (ρ : Env) : bindPts (p :: ps) (x :: xs) ρ = (bindPt p (.d x) ρ).bind (bindPts ps xs) := by simp only [bindPts]
@[simp] theorem retR_ret (w : W) (ρ : Env) (s : Store) : retR (.ok (.ret w) ρ s) = .ok w s := (rfl)
@[simp] theorem retR_next (ρ : Env) (s : Store) : retR (.ok .next ρ s) = .ok (.d .non) s := (rfl)
@[simp] theorem retR_ite {c : Prop} [Decidable c] (a b : SR) : retR (if c then a else b) = if c then retR a else retR b := by
  split <;> rfl
@[simp] theorem startE_eq (n : Nat) (ws : List W) : startE n ws = ws.map some ++ List.replicate (n - ws.length) none := (rfl)
@[simp] theorem pureM_apply (a : α) (s : Store) : M.pure a s = .ok a s := (rfl)
@[simp] theorem sem_var (i : Nat) : sem run gl (.var i) = ofV (fun ρ => getVar i ρ) := by simp only [sem]
@[simp] theorem sem_con (d : D) : sem run gl (.con d) = ofV (fun ρ => M.pure (.d d)) := by simp only [sem]
@[simp] theorem sem_glob (x : Str) : sem run gl (.glob x) = ofV (fun ρ => M.bind (lift (gl x)) fun d => M.pure (.d d)) := by simp only [sem]
@[simp] theorem sem_tup (es : List E) : sem run gl (.tup es) = ofV fun ρ => M.bind (smL (sems run gl es) ρ) fun ws => M.bind (freezes ws) fun xs => M.bind (guard (fits xs.length)) fun _ => M.pure (.d (.tup xs)) := by simp only [sem]
@[simp] theorem sem_list (m : Bool) (es : List E) : sem run gl (.list m es) = ofV fun ρ => M.bind (smL (sems run gl es) ρ) fun ws => M.bind (freezes ws) fun xs => M.bind (guard (fits xs.length)) fun _ => alloc m (.list xs) := by simp only [sem]
@[simp] theorem sem_bin (m : Bool) (op : Operator) (a b : E) : sem run gl (.bin m op a b) = ofV fun ρ => M.bind ((sem run gl a).v ρ) fun x => M.bind ((sem run gl b).v ρ) fun y => M.bind (peek x) fun x => M.bind (peek y) fun y => M.bind (lift (binD op x y)) fun z => alloc m z := by simp only [sem]
@[simp] theorem sem_un (op : UnaryOp) (a : E) : sem run gl (.un op a) = ofV fun ρ => M.bind ((sem run gl a).v ρ) fun x => M.bind (peek x) fun x => M.bind (lift (unD op x)) fun z => M.pure (.d z) := by simp only [sem]
@[simp] theorem sem_cmp (op : CmpOp) (a b : E) : sem run gl (.cmp op a b) = ofV fun ρ => M.bind ((sem run gl a).v ρ) fun x => M.bind ((sem run gl b).v ρ) fun y => M.bind (peek x) fun x => M.bind (peek y) fun y => M.bind (lift (cmpD op x y)) fun z => M.pure (.d (.bool z)) := by simp only [sem]
@[simp] theorem sem_cmp2 (op op2 : CmpOp) (a b c : E) : sem run gl (.cmp2 op op2 a b c) = ofV fun ρ => M.bind ((sem run gl a).v ρ) fun x => M.bind ((sem run gl b).v ρ) fun y => M.bind (peek x) fun x => M.bind (peek y) fun y' => M.bind (lift (cmpD op x y')) fun z =>
      if z then M.bind ((sem run gl c).v ρ) fun w => M.bind (peek y) fun y => M.bind (peek w) fun w => M.bind (lift (cmpD op2 y w)) fun z => M.pure (.d (.bool z)) else M.pure (.d (.bool false)) := by simp only [sem]
@[simp] theorem sem_and_t (a b : E) (ρ : Env) : (sem run gl (.and a b)).t ρ = M.bind ((sem run gl a).t ρ) fun t => if t then (sem run gl b).t ρ else M.pure false := by simp only [sem]
@[simp] theorem sem_or_t (a b : E) (ρ : Env) : (sem run gl (.or a b)).t ρ = M.bind ((sem run gl a).t ρ) fun t => if t then M.pure true else (sem run gl b).t ρ := by simp only [sem]
@[simp] theorem sem_not_t (a : E) (ρ : Env) : (sem run gl (.not a)).t ρ = M.bind ((sem run gl a).t ρ) fun t => M.pure (!t) := by simp only [sem]
@[simp] theorem sem_and_v (a b : E) (ρ : Env) : (sem run gl (.and a b)).v ρ = M.bind ((sem run gl a).v ρ) fun x => M.bind (peekS x) fun d => M.bind (lift (truth d)) fun t => if t then (sem run gl b).v ρ else M.pure x := by simp only [sem]
@[simp] theorem sem_or_v (a b : E) (ρ : Env) : (sem run gl (.or a b)).v ρ = M.bind ((sem run gl a).v ρ) fun x => M.bind (peekS x) fun d => M.bind (lift (truth d)) fun t => if t then M.pure x else (sem run gl b).v ρ := by simp only [sem]
@[simp] theorem sem_not_v (a : E) (ρ : Env) : (sem run gl (.not a)).v ρ = M.bind ((sem run gl a).v ρ) fun x => M.bind (peekS x) fun d => M.bind (lift (truth d)) fun t => M.pure (.d (.bool (!t))) := by simp only [sem]
@[simp] theorem sem_ite_v (c a b : E) (ρ : Env) : (sem run gl (.ite c a b)).v ρ = M.bind ((sem run gl c).t ρ) fun t => if t then (sem run gl a).v ρ else (sem run gl b).v ρ := by simp only [sem, ofV]
@[simp] theorem sem_ite_t (c a b : E) (ρ : Env) : (sem run gl (.ite c a b)).t ρ = M.bind ((sem run gl c).t ρ) fun t => if t then (sem run gl a).t ρ else (sem run gl b).t ρ := by simp only [sem, ofV]
@[simp] theorem sem_ite_i (c a b : E) (ρ : Env) : (sem run gl (.ite c a b)).i ρ = vI (fun ρ => M.bind ((sem run gl c).t ρ) fun t => if t then (sem run gl a).v ρ else (sem run gl b).v ρ) ρ := by simp only [sem, ofV]
@[simp] theorem sem_idx (a i : E) : sem run gl (.idx a i) = ofV fun ρ => M.bind ((sem run gl a).v ρ) fun x => M.bind ((sem run gl i).v ρ) fun y => M.bind (peek y) fun y => idxW x y := by simp only [sem]
@[simp] theorem sem_slice (m bl bh : Bool) (a lo hi : E) : sem run gl (.slice m bl bh a lo hi) = ofV fun ρ => M.bind ((sem run gl a).v ρ) fun x => M.bind (if bl then M.bind ((sem run gl lo).v ρ) partW else M.pure none) fun l => M.bind (if bh then M.bind ((sem run gl hi).v ρ) partW else M.pure none) fun h =>
      M.bind (peek x) fun x => M.bind (lift (sliceD x l h)) fun z => alloc m z := by simp only [sem]
@[simp] theorem sem_rev (a : E) : sem run gl (.rev a) = ofV fun ρ => M.bind ((sem run gl a).v ρ) fun x => M.bind (peek x) fun x => M.bind (lift (revD x)) fun z => alloc false z := by simp only [sem]
@[simp] theorem sem_call (m : Bool) (f : Str) (es : List E) : sem run gl (.call m f es) = ofV fun ρ => M.bind (smL (sems run gl es) ρ) fun ws => if m then run f ws else M.bind (pcall run f ws) fun z => M.pure (.d z) := by simp only [sem]
@[simp] theorem sem_bi (m : Bool) (f : Bi) (es : List E) : sem run gl (.bi m f es) = ofV fun ρ => M.bind (smL (sems run gl es) ρ) fun ws => M.bind (peeks ws) fun xs => M.bind (lift (biD f xs)) fun z => alloc m z := by simp only [sem]
@[simp] theorem sem_mt (m : Bool) (f : Mt) (o : E) (es : List E) : sem run gl (.mt m f o es) = ofV fun ρ => M.bind ((sem run gl o).v ρ) fun x => M.bind (peek x) fun x0 => M.bind (guard (isStr x0)) fun _ => M.bind (smL (sems run gl es) ρ) fun ws => M.bind (peek x) fun x => M.bind (peeks ws) fun xs => M.bind (lift (mtD f x xs)) fun z => alloc m z := by simp only [sem]
@[simp] theorem sem_app (o e : E) : sem run gl (.app o e) = ofV fun ρ => M.bind ((sem run gl o).v ρ) fun x => M.bind (guardL x) fun _ => M.bind ((sem run gl e).v ρ) fun w => M.bind (freeze w) fun y => append x y := by simp only [sem]
@[simp] theorem sem_range_i (es : List E) (ρ : Env) : (sem run gl (.range es)).i ρ = M.bind (smL (sems run gl es) ρ) fun ws => M.bind (peeks ws) fun xs => lift (rangeD xs) := by simp only [sem]
@[simp] theorem sem_lc (m : Bool) (elt : E) (tg : Pt) (it : E) (cs : List E) (own : List Nat) : sem run gl (.lc m elt tg it cs own) = ofV fun ρ => M.bind ((sem run gl it).i ρ) fun xs => M.bind (lcLoop (lcBody tg (sems run gl cs) (sem run gl elt) (wipeE ρ own)) xs []) fun ys => alloc m (.list ys) := by simp only [sem]
@[simp] theorem sem_fs (es : List E) : sem run gl (.fs es) = ofV fun ρ => M.bind (smF (sems run gl es) [] ρ) fun s => M.pure (.d (.str s)) := by simp only [sem]
@[simp] theorem sem_fmt (a : E) : sem run gl (.fmt a) = ofV fun ρ => M.bind ((sem run gl a).v ρ) fun x => M.bind (peek x) fun x => M.bind (lift (fmtD x)) fun s => M.pure (.d (.str s)) := by simp only [sem]
@[simp] theorem sem_isI (a : E) (t : Ty) : sem run gl (.isI a t) = ofV fun ρ => M.bind ((sem run gl a).v ρ) fun x => M.bind (peekS x) fun x => M.pure (.d (.bool (isID x t))) := by simp only [sem]
@[simp] theorem sem_listw (es : List E) : sem run gl (.listw es) = ofV fun ρ => M.bind (smL (sems run gl es) ρ) fun ws => M.bind (guard (fits ws.length)) fun _ => allocL ws := by simp only [sem]
@[simp] theorem sem_tupw (es : List E) : sem run gl (.tupw es) = ofV fun ρ => M.bind (smL (sems run gl es) ρ) fun ws => M.bind (guard (fits ws.length)) fun _ => allocT ws := by simp only [sem]
@[simp] theorem sem_appw (o e : E) : sem run gl (.appw o e) = ofV fun ρ => M.bind ((sem run gl o).v ρ) fun x => M.bind (guardL x) fun _ => M.bind ((sem run gl e).v ρ) fun w => appendW x w := by simp only [sem]
@[simp] theorem sem_ext (o e : E) : sem run gl (.ext o e) = ofV fun ρ => M.bind ((sem run gl o).v ρ) fun x => M.bind (guardL x) fun _ => M.bind ((sem run gl e).v ρ) fun w => M.bind (peek w) fun y => extend x y := by simp only [sem]
@[simp] theorem sem_len (a : E) : sem run gl (.len a) = ofV fun ρ => M.bind ((sem run gl a).v ρ) fun x => M.bind (peekS x) fun x => M.bind (lift (lenD x)) fun n => M.pure (.d (.int (n : Int))) := by simp only [sem]
@[simp] theorem sem_gcd (a b : E) : sem run gl (.gcd a b) = ofV fun ρ => M.bind ((sem run gl a).v ρ) fun x => M.bind ((sem run gl b).v ρ) fun y => M.bind (peek x) fun x => M.bind (peek y) fun y => M.bind (lift (gcdD x y)) fun z => M.pure (.d z) := by simp only [sem]
@[simp] theorem sem_repl (o : E) (y z : List Nat) : sem run gl (.repl o y z) = ofV fun ρ => M.bind ((sem run gl o).v ρ) fun x => M.bind (peek x) fun x => M.bind (lift (repD y z x)) fun z => M.pure (.d z) := by simp only [sem]
@[simp] theorem sem_isN (neg : Bool) (a : E) : sem run gl (.isN neg a) = ofV fun ρ => M.bind ((sem run gl a).v ρ) fun x => M.bind (peekS x) fun x => M.pure (.d (.bool (isNon x != neg))) := by simp only [sem]
theorem enum_k (w : W) : (M.bind (freeze w) fun x => match x with
      | .list xs => M.pure (enumL xs)
      | _ => M.bad) = M.bind (freeze w) fun x => lift (match x with
      | .list xs => some (enumL xs)
      | _ => none) := by
  funext s
  show (freeze w s).andThen _ = (freeze w s).andThen _
  cases freeze w s with
  | ok x s => cases x <;> rfl
  | _ => rfl
def enumD (x : D) : Option (List D) := match x with
  | .list xs => some (enumL xs)
  | _ => none
@[simp] theorem enumD_list (xs : List D) : enumD (.list xs) = some (enumL xs) := (rfl)
@[simp] theorem sem_enum_i (a : E) (ρ : Env) : (sem run gl (.enum a)).i ρ = M.bind ((sem run gl a).v ρ) fun w => M.bind (freeze w) fun x => lift (enumD x) := by
  have : (sem run gl (.enum a)).i ρ = M.bind ((sem run gl a).v ρ) fun w => M.bind (freeze w) fun x => match x with
      | .list xs => M.pure (enumL xs)
      | _ => M.bad := by
    simp only [sem]
    all_goals (rfl)
  rw [this]
  simp only [enum_k]
  rfl
@[simp] theorem sem_lcw (elt : E) (tg : Pt) (it : E) (cs : List E) (own : List Nat) : sem run gl (.lcw elt tg it cs own) = ofV fun ρ => M.bind ((sem run gl it).i ρ) fun xs => M.bind (lcLoop (lcBodyW tg (sems run gl cs) (sem run gl elt) (wipeE ρ own)) xs []) fun ws => allocL ws := by simp only [sem]
@[simp] theorem sem_lenSC (elt : E) (tg : Pt) (it : E) (cs : List E) (own : List Nat) : sem run gl (.lenSC elt tg it cs own) = ofV fun ρ => M.bind ((sem run gl it).i ρ) fun xs => M.bind (lcLoop (lcBody tg (sems run gl cs) (sem run gl elt) (wipeE ρ own)) xs []) fun ys => M.bind (lift (lenSet ys)) fun z => M.pure (.d z) := by simp only [sem]
@[simp] theorem isStr_str (x : List Nat) : isStr (.str x) = true := (rfl)
@[simp] theorem wipeE_nil (ρ : Env) : wipeE ρ [] = ρ := (rfl)
@[simp] theorem truth_bool (b : Bool) : truth (.bool b) = some b := (rfl)
@[simp] theorem truth_non : truth .non = some false := (rfl)
@[simp] theorem truth_int (i : Int) : truth (.int i) = some (i != 0) := (rfl)
@[simp] theorem truth_list (xs : List D) : truth (.list xs) = some (!xs.isEmpty) := (rfl)
@[simp] theorem truth_rol (xs : List D) : truth (.rol xs) = some (!xs.isEmpty) := (rfl)
theorem truth_str {x : List Nat} (h : fits x.length = true) : truth (.str x) = some (!x.isEmpty) := by simp [truth, h]
theorem fits_of {n : Nat} (h : n ≤ 16777216) : fits n = true := decide_eq_true h
@[simp] theorem eq_str (a b : List Nat) : cmpD .Eq (.str a) (.str b) = some (decide (a = b)) := (rfl)
@[simp] theorem eq_int (a b : Int) : cmpD .Eq (.int a) (.int b) = some (decide (a = b)) := (rfl)
@[simp] theorem ne_str (a b : List Nat) : cmpD .NotEq (.str a) (.str b) = some (!decide (a = b)) := (rfl)
@[simp] theorem ne_int (a b : Int) : cmpD .NotEq (.int a) (.int b) = some (!decide (a = b)) := (rfl)
@[simp] theorem lt_int (a b : Int) : cmpD .Lt (.int a) (.int b) = some (decide (a < b)) := (rfl)
@[simp] theorem le_int (a b : Int) : cmpD .LtE (.int a) (.int b) = some (decide (a ≤ b)) := (rfl)
@[simp] theorem gt_int (a b : Int) : cmpD .Gt (.int a) (.int b) = some (decide (b < a)) := (rfl)
@[simp] theorem ge_int (a b : Int) : cmpD .GtE (.int a) (.int b) = some (decide (b ≤ a)) := (rfl)
@[simp] theorem is_non (x : D) : cmpD .Is x .non = some (isNon x) := (rfl)
@[simp] theorem isnot_non (x : D) : cmpD .IsNot x .non = some (!isNon x) := (rfl)
@[simp] theorem in_sign (c : Nat) (z : List Nat) : cmpD .In (.str [c]) (.str z) = some (decide (c ∈ z)) := (rfl)
@[simp] theorem notin_sign (c : Nat) (z : List Nat) : cmpD .NotIn (.str [c]) (.str z) = some (!decide (c ∈ z)) := (rfl)
@[simp] theorem add_int (a b : Int) : binD .Add (.int a) (.int b) = some (.int (a + b)) := (rfl)
@[simp] theorem sub_int (a b : Int) : binD .Sub (.int a) (.int b) = some (.int (a - b)) := (rfl)
theorem mul_int' {a b : Int} (h : mulOk a b = true) : binD .Mult (.int a) (.int b) = some (.int (a * b)) := by simp [binD, intBin, h]
theorem mod_int' {a b : Int} (h : 0 < b) : binD .Mod (.int a) (.int b) = some (.int (a % b)) := by simp [binD, intBin, h]
theorem div_int' {a b : Int} (h : 0 < b) (h2 : b < 1073741824) : binD .FloorDiv (.int a) (.int b) = some (.int (a / b)) := by simp [binD, intBin, h, h2]
theorem add_str {a b : List Nat} (h : a.length + b.length ≤ 16777216) : binD .Add (.str a) (.str b) = some (.str (a ++ b)) := by simp [binD, fits, h]
theorem add_list {a b : List D} (h : a.length + b.length ≤ 16777216) : binD .Add (.list a) (.list b) = some (.list (a ++ b)) := by simp [binD, fits, h]
@[simp] theorem len_list (xs : List D) : lenD (.list xs) = some xs.length := (rfl)
@[simp] theorem len_rol (xs : List D) : lenD (.rol xs) = some xs.length := (rfl)
@[simp] theorem len_tup (xs : List D) : lenD (.tup xs) = some xs.length := (rfl)
theorem len_str {x : List Nat} (h : fits x.length = true) : lenD (.str x) = some x.length := by simp [lenD, h]
@[simp] theorem walk_list (xs : List D) : walkD (.list xs) = some xs := (rfl)
@[simp] theorem walk_rol (xs : List D) : walkD (.rol xs) = some xs := (rfl)
@[simp] theorem walk_tupE (xs : List D) : walkD (.tup xs) = some xs := (rfl)
theorem walk_str {x : List Nat} (h : fits x.length = true) : walkD (.str x) = some (x.map fun c => .str [c]) := by simp [walkD, h]
theorem lcLoop_pure {body : D → M (Option D)} (g : D → Option D) : ∀ {xs acc : List D}, (∀ x ∈ xs, body x = M.pure (g x)) → acc.length + xs.length ≤ 16777216 → lcLoop body xs acc = M.pure (acc.reverse ++ xs.filterMap g)
  | [], acc, _, _ => by funext s; simp [lcLoop]
  | x :: xs, acc, h, hl => by
    funext s
    have e := h x (by simp)
    have ih : ∀ acc : List D, acc.length + xs.length ≤ 16777216 → lcLoop body xs acc = M.pure (acc.reverse ++ xs.filterMap g) := fun acc hl => lcLoop_pure g (fun y hy => h y (by simp [hy])) hl
    have hl : acc.length + (xs.length + 1) ≤ 16777216 := hl
    rw [lcLoop_cons, e]
    cases hg : g x with
    | none =>
      show lcLoop body xs acc s = _
      rw [ih acc (by omega), List.filterMap_cons, hg]
    | some y =>
      show (if decide (acc.length < 16777216) then lcLoop body xs (y :: acc) s else .bad) = _
      rw [if_pos (by simp; omega), ih (y :: acc) (by simp; omega), List.filterMap_cons, hg]
      simp
/-- a comprehension of pure terms -/
theorem lc_map {body : D → M (Option D)} {xs : List D} (g : D → D) (h : ∀ x ∈ xs, body x = M.pure (some (g x))) (hl : xs.length ≤ 16777216) : lcLoop body xs [] = M.pure (xs.map g) := by
  rw [lcLoop_pure (fun x => some (g x)) h (by simpa using hl)]
  simp

@[simp] theorem ite_pureM {c : Prop} [Decidable c] (a b : α) : (if c then M.pure a else M.pure b) = M.pure (if c then a else b) := by
  split <;> rfl
@[simp] theorem ite_W {c : Prop} [Decidable c] (a b : D) : (if c then W.d a else W.d b) = W.d (if c then a else b) := by
  split <;> rfl
@[simp] theorem ite_str {c : Prop} [Decidable c] (a b : List Nat) : (if c then D.str a else D.str b) = D.str (if c then a else b) := by
  split <;> rfl
@[simp] theorem ite_int {c : Prop} [Decidable c] (a b : Int) : (if c then D.int a else D.int b) = D.int (if c then a else b) := by
  split <;> rfl
@[simp] theorem ite_bool {c : Prop} [Decidable c] (a b : Bool) : (if c then D.bool a else D.bool b) = D.bool (if c then a else b) := by
  split <;> rfl
theorem lc_str {body : D → M (Option D)} {t : List Nat} (g : Nat → Option D) (h : ∀ c ∈ t, body (.str [c]) = M.pure (g c)) (hl : t.length ≤ 16777216) : lcLoop body (t.map fun c => .str [c]) [] = M.pure (t.filterMap g) := by
  rw [lcLoop_pure (fun x => match x with | .str [c] => g c | _ => none) (fun x hx => ?_) (by simpa using hl)]
  · simp [List.filterMap_map]
    rfl
  · obtain ⟨c, hc, rfl⟩ := List.mem_map.mp hx
    exact h c hc
theorem lcBody_eq (tg : Pt) (cs : List Sm) (elt : Sm) (ρ : Env) (x : D) : lcBody tg cs elt ρ x = M.bind (lift (bindPt tg (.d x) ρ)) fun ρ1 => M.bind (smT cs ρ1) fun t => if t then M.bind (elt.v ρ1) fun w => M.bind (freeze w) fun y => M.pure (some y) else M.pure none := rfl
@[simp] theorem smT_nil (ρ : Env) : smT [] ρ = M.pure true := (rfl)
@[simp] theorem smT_cons (e : Sm) (es : List Sm) (ρ : Env) : smT (e :: es) ρ = M.bind (e.t ρ) fun t => if t then smT es ρ else M.pure false := (rfl)
@[simp] theorem wipeE_cons (ρ : Env) (v : Nat) (vs : List Nat) : wipeE ρ (v :: vs) = (wipeE ρ vs).set v none := (rfl)
@[simp] theorem cut_take1 {α : Type} (xs : List α) : cut xs none (some 1) = xs.take 1 := by
  unfold cut
  rw [show (some (1 : Int)) = some ((1 : Nat) : Int) from rfl, HT.sIx_nat, HT.sIx_none]
  simp [List.take_eq_take_iff]
@[simp] theorem cut_drop1 {α : Type} (xs : List α) : cut xs (some 1) none = xs.drop 1 := by
  unfold cut
  rw [show (some (1 : Int)) = some ((1 : Nat) : Int) from rfl, HT.sIx_nat, HT.sIx_none]
  by_cases h : 1 ≤ xs.length
  · rw [Nat.min_eq_left h, List.take_of_length_le (by simp)]
  · have : xs = [] := List.length_eq_zero_iff.mp (by omega)
    subst this
    rfl
theorem cut_take {α : Type} (xs : List α) (k : Nat) : cut xs none (some (k : Int)) = xs.take k := by
  unfold cut
  rw [HT.sIx_nat, HT.sIx_none]
  simp [List.take_eq_take_iff]
theorem cut_drop {α : Type} (xs : List α) (k : Nat) : cut xs (some (k : Int)) none = xs.drop k := by
  unfold cut
  rw [HT.sIx_nat, HT.sIx_none]
  by_cases h : k ≤ xs.length
  · rw [Nat.min_eq_left h, List.take_of_length_le (by simp)]
  · rw [Nat.min_eq_right (by omega), List.drop_length, List.drop_of_length_le (by omega)]
    simp
theorem slice_strE {x : List Nat} {lo hi : Option Int} (h : fits x.length = true) : sliceD (.str x) lo hi = some (.str (cut x lo hi)) := by simp [sliceD, h]
@[simp] theorem slice_listE (x : List D) (lo hi : Option Int) : sliceD (.list x) lo hi = some (.list (cut x lo hi)) := (rfl)
theorem boolsL_map {α : Type} (f : α → Bool) : ∀ xs : List α, boolsL (xs.map fun x => .bool (f x)) = some (xs.map f)
  | [] => rfl
  | x :: xs => by simp [boolsL, boolsL_map f xs]
theorem all_bools {α : Type} (f : α → Bool) (xs : List α) : biD .all [.list (xs.map fun x => .bool (f x))] = some (.bool (xs.all f)) := by
  simp [biD, boolsL_map, List.all_map]
theorem idx_strE {x : List Nat} (h : fits x.length = true) {j : Nat} {c : Nat} (e : x[j]? = some c) : idxD (.str x) (.int (j : Int)) = some (.str [c]) := by
  show (if fits x.length then (L2.atI x (j : Int)).map fun c => D.str [c] else none) = _
  rw [if_pos h, L2.atI_nat e]
  rfl
theorem idx_str0 {x : List Nat} (h : fits x.length = true) {c : Nat} {r : List Nat} (e : x = c :: r) : idxD (.str x) (.int 0) = some (.str [c]) := idx_strE (j := 0) h (by rw [e]; rfl)
theorem idx_listE {x : List D} {j : Nat} {c : D} (e : x[j]? = some c) : idxD (.list x) (.int (j : Int)) = some c := L2.atI_nat e
theorem idx_rolE {x : List D} {j : Nat} {c : D} (e : x[j]? = some c) : idxD (.rol x) (.int (j : Int)) = some c := L2.atI_nat e

@[simp] theorem guard_fits {n : Nat} (h : n ≤ 16777216) : guard (fits n) = M.pure () := by
  rw [fits_of h]
  rfl
/-- data that == serves -/
def D.good : Nat → D → Bool
  | _, .non => true | _, .bool _ => true | _, .int _ => true
  | _, .str x => x.all (· < 0x110000)
  | 0, _ => false
  | n + 1, .list xs => xs.all (D.good n)
  | n + 1, .tup xs => xs.all (D.good n)
  | n + 1, .rol xs => xs.all (D.good n)
mutual
theorem eqv_refl0 : ∀ d : PyData, d.canLay0 = true → PyData.eqv d d = true
  | .none, _ => by simp [PyData.eqv]
  | .bool b, _ => by simp [PyData.eqv]
  | .int b, _ => by simp [PyData.eqv]
  | .str b, _ => by simp [PyData.eqv]
  | .list xs, h => by simpa [PyData.eqv] using eqvAll_refl0 xs (by simpa [PyData.canLay0] using h)
  | .tuple xs, h => by simpa [PyData.eqv] using eqvAll_refl0 xs (by simpa [PyData.canLay0] using h)
  | .dict _, h => by simp [PyData.canLay0] at h
theorem eqvAll_refl0 : ∀ xs : List PyData, PyData.canLayAll0 xs = true → PyData.eqvAll xs xs = true
  | [], _ => by simp [PyData.eqvAll]
  | x :: xs, h => by
    have h : PyData.canLay0 x = true ∧ PyData.canLayAll0 xs = true := by simpa [PyData.canLayAll0] using h
    simp [PyData.eqvAll, eqv_refl0 x h.1, eqvAll_refl0 xs h.2]
end
theorem good_all {n : Nat} (ih : ∀ x : D, x.good n = true → ∃ d, x.toPy = some d ∧ d.canLay0 = true ∧ d.depth ≤ n) : ∀ xs : List D, xs.all (D.good n) = true → ∃ ds, D.toPys xs = some ds ∧ PyData.canLayAll0 ds = true ∧ PyData.depthAll ds ≤ n ∧ ds.length = xs.length
  | [], _ => ⟨[], rfl, by simp [PyData.canLayAll0], by simp [PyData.depthAll], rfl⟩
  | x :: xs, h => by
    rw [List.all_cons, Bool.and_eq_true] at h
    obtain ⟨d, h1, h2, h3⟩ := ih x h.1
    obtain ⟨ds, q1, q2, q3, q4⟩ := good_all ih xs h.2
    refine ⟨d :: ds, ?_, by simp [PyData.canLayAll0, h2, q2], by simp [PyData.depthAll]; omega, by simp [q4]⟩
    show ((D.toPy x).bind fun a => (D.toPys xs).map fun r => a :: r) = _
    rw [h1, q1]
    rfl
theorem good_py : ∀ (n : Nat) (x : D), x.good n = true → ∃ d, x.toPy = some d ∧ d.canLay0 = true ∧ d.depth ≤ n
  | n, .non, _ => ⟨.none, rfl, by simp [PyData.canLay0], by simp [PyData.depth]⟩
  | n, .bool b, _ => ⟨.bool b, rfl, by simp [PyData.canLay0], by simp [PyData.depth]⟩
  | n, .int i, _ => ⟨.int i, rfl, by simp [PyData.canLay0], by simp [PyData.depth]⟩
  | n, .str x, h => by
    have h : x.all (· < 0x110000) = true := by cases n <;> exact h
    refine ⟨.str ⟨x.toArray⟩, rfl, ?_, by simp [PyData.depth]⟩
    simpa [PyData.canLay0, PyData.strOk] using h
  | 0, .list _, h => by cases h
  | 0, .tup _, h => by cases h
  | 0, .rol _, h => by cases h
  | n + 1, .list xs, h => by
    obtain ⟨ds, q1, q2, q3, _⟩ := good_all (good_py n) xs h
    exact ⟨.list ds, by show (D.toPys xs).map PyData.list = _; rw [q1]; rfl, by simpa [PyData.canLay0] using q2, by simp [PyData.depth]; omega⟩
  | n + 1, .tup xs, h => by
    obtain ⟨ds, q1, q2, q3, _⟩ := good_all (good_py n) xs h
    exact ⟨.tuple ds, by show (D.toPys xs).map PyData.tuple = _; rw [q1]; rfl, by simpa [PyData.canLay0] using q2, by simp [PyData.depth]; omega⟩
  | n + 1, .rol xs, h => by
    obtain ⟨ds, q1, q2, q3, _⟩ := good_all (good_py n) xs h
    exact ⟨.list ds, by show (D.toPys xs).map PyData.list = _; rw [q1]; rfl, by simpa [PyData.canLay0] using q2, by simp [PyData.depth]; omega⟩
theorem eqD_refl {n : Nat} (hn : n ≤ 60) {x : D} (h : x.good n = true) : eqD x x = some true := by
  have deep : eqDeep x x = some true := by
    obtain ⟨d, h1, h2, h3⟩ := good_py n x h
    simp [eqDeep, h1, SeqAt.shaped, h2, eqv_refl0 d h2]
    omega
  cases x <;> first | exact deep | simp [eqD]
theorem eqD_nil {n : Nat} (hn : n ≤ 60) {xs : List D} (h : xs.all (D.good n) = true) : eqD (.list xs) (.list []) = some xs.isEmpty := by
  obtain ⟨ds, q1, q2, q3, q4⟩ := good_all (good_py n) xs h
  have e : (D.list xs).toPy = some (.list ds) := by show (D.toPys xs).map PyData.list = _; rw [q1]; rfl
  show eqDeep (.list xs) (.list []) = _
  have e0 : (D.list []).toPy = some (.list []) := rfl
  simp [eqDeep, e, e0, SeqAt.shaped, PyData.canLay0, q2, PyData.canLayAll0, PyData.depth, PyData.depthAll]
  refine ⟨by omega, ?_⟩
  cases xs with
  | nil =>
    have : ds = [] := List.length_eq_zero_iff.mp q4
    subst this
    simp [PyData.eqv, PyData.eqvAll]
  | cons x xs =>
    cases ds with
    | nil => simp at q4
    | cons d ds => simp [PyData.eqv, PyData.eqvAll]
theorem ne_nilE {n : Nat} (hn : n ≤ 60) {xs : List D} (h : xs.all (D.good n) = true) : cmpD .NotEq (.list xs) (.list []) = some (!xs.isEmpty) := by
  show (eqD (.list xs) (.list [])).map _ = _
  rw [eqD_nil hn h]
  rfl
theorem eq_nilE {n : Nat} (hn : n ≤ 60) {xs : List D} (h : xs.all (D.good n) = true) : cmpD .Eq (.list xs) (.list []) = some xs.isEmpty := eqD_nil hn h

/-- a list's cell of data alone -/
def wsD (xs : List D) : List W := xs.map .d
def dl (xs : List D) : Cell := .list (wsD xs)
@[simp] theorem wsD_len (xs : List D) : (wsD xs).length = xs.length := List.length_map _
@[simp] theorem wsD_nil : wsD [] = [] := (rfl)
theorem dl_nil : Cell.list [] = dl [] := (rfl)
theorem wsD_cons (x : D) (xs : List D) : wsD (x :: xs) = .d x :: wsD xs := (rfl)
theorem wsD_append (xs ys : List D) : wsD (xs ++ ys) = wsD xs ++ wsD ys := List.map_append
theorem datas_map : ∀ xs : List D, datas (xs.map .d) = some xs
  | [] => rfl
  | x :: xs => by
    show (datas (xs.map .d)).map (fun r => x :: r) = _
    rw [datas_map xs]
    rfl
@[simp] theorem dl_push (xs : List D) (x : D) : Cell.list (wsD xs ++ [W.d x]) = dl (xs ++ [x]) := by simp [dl, wsD]
@[simp] theorem dl_app (xs ys : List D) : Cell.list (wsD xs ++ wsD ys) = dl (xs ++ ys) := by simp [dl, wsD]
@[simp] theorem exM_alloc (xs : List D) (ρ : Env) (k : W → Store → SR) (s : Store) : exM (alloc true (.list xs)) ρ k s = k (.ref s.length) (s ++ [dl xs]) := (rfl)
@[simp] theorem exM_allocL (ws : List W) (ρ : Env) (k : W → Store → SR) (s : Store) : exM (allocL ws) ρ k s = k (.ref s.length) (s ++ [.list ws]) := (rfl)
@[simp] theorem exM_allocT (ws : List W) (ρ : Env) (k : W → Store → SR) (s : Store) : exM (allocT ws) ρ k s = k (.ref s.length) (s ++ [.tup ws]) := (rfl)
theorem exM_bind {m : M α} {f : α → M β} {ρ : Env} {k : β → Store → SR} {s s' : Store} {a : α} (h : m s = .ok a s') : exM (M.bind m f) ρ k s = exM (f a) ρ k s' := by
  show exS ((m s).andThen f) ρ k = _
  rw [h]
  rfl
/-- what a cell shows -/
def seen (o : Option Cell) (k : D → SR) : SR := match o with
  | some (.list ws) => match datas ws with
    | some xs => k (.list xs)
    | none => .bad
  | some (.tup _) => .bad
  | some (.frz d) => k d
  | none => .bad
/-- .. its top -/
def seenS (o : Option Cell) (k : D → SR) : SR := match o with
  | some (.list ws) => k (.list (ws.map skel))
  | some (.tup ws) => k (.tup (ws.map skel))
  | some (.frz d) => k d
  | none => .bad
@[simp] theorem seen_list (xs : List D) (k : D → SR) : seen (some (dl xs)) k = k (.list xs) := by
  show (match datas (xs.map W.d) with | some xs => k (.list xs) | none => .bad) = _
  rw [datas_map]
@[simp] theorem seen_frz (d : D) (k : D → SR) : seen (some (.frz d)) k = k d := (rfl)
theorem skel_map (xs : List D) : (xs.map W.d).map skel = xs := by
  rw [List.map_map]
  exact List.map_id xs
@[simp] theorem seenS_list (xs : List D) (k : D → SR) : seenS (some (dl xs)) k = k (.list xs) := by
  show k (.list ((xs.map W.d).map skel)) = _
  rw [skel_map]
@[simp] theorem seenS_frz (d : D) (k : D → SR) : seenS (some (.frz d)) k = k d := (rfl)
@[simp] theorem exM_peek (n : Nat) (f : D → M β) (ρ : Env) (k : β → Store → SR) (s : Store) : exM (M.bind (peek (.ref n)) f) ρ k s = seen s[n]? fun d => exM (f d) ρ k s := by
  show exS ((peek (.ref n) s).andThen f) ρ k = _
  rw [peek_ref]
  cases e : s[n]? with
  | none => rfl
  | some c =>
    cases c with
    | list ws =>
      show exS ((match datas ws with | some xs => Res.ok (D.list xs) s | none => .bad).andThen f) ρ k = (match datas ws with | some xs => exM (f (.list xs)) ρ k s | none => .bad)
      cases datas ws <;> rfl
    | _ => rfl
@[simp] theorem exM_peekS (n : Nat) (f : D → M β) (ρ : Env) (k : β → Store → SR) (s : Store) : exM (M.bind (peekS (.ref n)) f) ρ k s = seenS s[n]? fun d => exM (f d) ρ k s := by
  show exS ((peekS (.ref n) s).andThen f) ρ k = _
  rw [peekS_ref]
  cases e : s[n]? with
  | none => rfl
  | some c => cases c <;> rfl
def appS (o : Option Cell) (k : List W → SR) : SR := match o with
  | some (.list xs) => k xs
  | _ => .bad
@[simp] theorem appS_list (xs : List D) (k : List W → SR) : appS (some (dl xs)) k = k (wsD xs) := (rfl)
@[simp] theorem appS_listW (xs : List W) (k : List W → SR) : appS (some (.list xs)) k = k xs := (rfl)
@[simp] theorem exM_guardL (n : Nat) (f : Unit → M β) (ρ : Env) (k : β → Store → SR) (s : Store) : exM (M.bind (guardL (.ref n)) f) ρ k s = appS s[n]? fun _ => exM (f ()) ρ k s := by
  show exS ((match s[n]? with | some (.list _) => Res.ok () s | _ => .bad).andThen f) ρ k = _
  cases s[n]? with
  | none => rfl
  | some c => cases c <;> rfl
@[simp] theorem exM_append (n : Nat) (x : D) (ρ : Env) (k : W → Store → SR) (s : Store) : exM (append (.ref n) x) ρ k s = appS s[n]? fun xs => if xs.length < 16777216 then k (.d .non) (s.set n (.list (xs ++ [.d x]))) else .bad := by
  show exS (match s[n]? with | some (.list xs) => (if decide (xs.length < 16777216) then Res.ok (W.d .non) (s.set n (.list (xs ++ [.d x]))) else .bad) | _ => .bad) ρ k = _
  cases s[n]? with
  | none => rfl
  | some c =>
    cases c with
    | list xs =>
      show exS (if decide (xs.length < 16777216) = true then Res.ok (W.d .non) (s.set n (.list (xs ++ [.d x]))) else .bad) ρ k = if xs.length < 16777216 then k (.d .non) (s.set n (.list (xs ++ [.d x]))) else .bad
      by_cases h : xs.length < 16777216
      · rw [decide_eq_true h, if_pos rfl, if_pos h]
        rfl
      · rw [decide_eq_false h, if_neg Bool.false_ne_true, if_neg h]
        rfl
    | _ => rfl
@[simp] theorem exM_appendW (n : Nat) (u : W) (ρ : Env) (k : W → Store → SR) (s : Store) : exM (appendW (.ref n) u) ρ k s = appS s[n]? fun xs => if xs.length < 16777216 then k (.d .non) (s.set n (.list (xs ++ [u]))) else .bad := by
  show exS (match s[n]? with | some (.list xs) => (if decide (xs.length < 16777216) then Res.ok (W.d .non) (s.set n (.list (xs ++ [u]))) else .bad) | _ => .bad) ρ k = _
  cases s[n]? with
  | none => rfl
  | some c =>
    cases c with
    | list xs =>
      show exS (if decide (xs.length < 16777216) = true then Res.ok (W.d .non) (s.set n (.list (xs ++ [u]))) else .bad) ρ k = if xs.length < 16777216 then k (.d .non) (s.set n (.list (xs ++ [u]))) else .bad
      by_cases h : xs.length < 16777216
      · rw [decide_eq_true h, if_pos rfl, if_pos h]
        rfl
      · rw [decide_eq_false h, if_neg Bool.false_ne_true, if_neg h]
        rfl
    | _ => rfl
@[simp] theorem exM_extend (n : Nat) (ys : List D) (ρ : Env) (k : W → Store → SR) (s : Store) : exM (extend (.ref n) (.list ys)) ρ k s = appS s[n]? fun xs => if xs.length + ys.length ≤ 16777216 then k (.d .non) (s.set n (.list (xs ++ wsD ys))) else .bad := by
  show exS (match s[n]? with | some (.list xs) => (if decide (xs.length + ys.length ≤ 16777216) then Res.ok (W.d .non) (s.set n (.list (xs ++ ys.map .d))) else .bad) | _ => .bad) ρ k = _
  cases s[n]? with
  | none => rfl
  | some c =>
    cases c with
    | list xs =>
      show exS (if decide (xs.length + ys.length ≤ 16777216) = true then Res.ok (W.d .non) (s.set n (.list (xs ++ ys.map .d))) else .bad) ρ k = if xs.length + ys.length ≤ 16777216 then k (.d .non) (s.set n (.list (xs ++ ys.map .d))) else .bad
      by_cases h : xs.length + ys.length ≤ 16777216
      · rw [decide_eq_true h, if_pos rfl, if_pos h]
        rfl
      · rw [decide_eq_false h, if_neg Bool.false_ne_true, if_neg h]
        rfl
    | _ => rfl
/-- an index into a cell -/
def ixS (o : Option Cell) (i : D) (k : W → SR) : SR := match o with
  | some (.list ws) => (match i with
    | .int j => (match L2.atI ws j with | some w => k w | none => .bad)
    | _ => .bad)
  | some (.tup ws) => (match i with
    | .int j => (match L2.atI ws j with | some w => k w | none => .bad)
    | _ => .bad)
  | some (.frz d) => (match idxD d i with | some y => k (.d y) | none => .bad)
  | none => .bad
@[simp] theorem exM_idxW (n : Nat) (i : D) (f : W → M β) (ρ : Env) (k : β → Store → SR) (s : Store) : exM (M.bind (idxW (.ref n) i) f) ρ k s = ixS s[n]? i fun w => exM (f w) ρ k s := by
  show exS ((idxW (.ref n) i s).andThen f) ρ k = _
  rw [idxW_ref]
  cases s[n]? with
  | none => rfl
  | some c =>
    cases c with
    | list ws =>
      cases i with
      | int j =>
        show exS ((match L2.atI ws j with | some w => Res.ok w s | none => .bad).andThen f) ρ k = (match L2.atI ws j with | some w => exM (f w) ρ k s | none => .bad)
        cases L2.atI ws j <;> rfl
      | _ => rfl
    | tup ws =>
      cases i with
      | int j =>
        show exS ((match L2.atI ws j with | some w => Res.ok w s | none => .bad).andThen f) ρ k = (match L2.atI ws j with | some w => exM (f w) ρ k s | none => .bad)
        cases L2.atI ws j <;> rfl
      | _ => rfl
    | frz d =>
      show exS ((match idxD d i with | some y => Res.ok (W.d y) s | none => .bad).andThen f) ρ k = (match idxD d i with | some y => exM (f (.d y)) ρ k s | none => .bad)
      cases idxD d i <;> rfl
@[simp] theorem exM_idxW0 (n : Nat) (i : D) (ρ : Env) (k : W → Store → SR) (s : Store) : exM (idxW (.ref n) i) ρ k s = ixS s[n]? i fun w => k w s := by
  show exS (idxW (.ref n) i s) ρ k = _
  rw [idxW_ref]
  cases s[n]? with
  | none => rfl
  | some c =>
    cases c with
    | list ws =>
      cases i with
      | int j =>
        show exS (match L2.atI ws j with | some w => Res.ok w s | none => .bad) ρ k = (match L2.atI ws j with | some w => k w s | none => .bad)
        cases L2.atI ws j <;> rfl
      | _ => rfl
    | tup ws =>
      cases i with
      | int j =>
        show exS (match L2.atI ws j with | some w => Res.ok w s | none => .bad) ρ k = (match L2.atI ws j with | some w => k w s | none => .bad)
        cases L2.atI ws j <;> rfl
      | _ => rfl
    | frz d =>
      show exS (match idxD d i with | some y => Res.ok (W.d y) s | none => .bad) ρ k = (match idxD d i with | some y => k (.d y) s | none => .bad)
      cases idxD d i <;> rfl
theorem atI_ws {xs : List D} {i : Int} {x : D} (h : L2.atI xs i = some x) : L2.atI (wsD xs) i = some (.d x) := by
  unfold wsD L2.atI at *
  rw [List.length_map]
  cases e : L2.ixN xs.length i with
  | none => rw [e] at h; cases h
  | some j =>
    rw [e] at h
    show (xs.map W.d)[j]? = _
    rw [List.getElem?_map, show xs[j]? = some x from h]
    rfl
theorem ixS_dl {xs : List D} {i : Int} {x : D} {k : W → SR} (h : L2.atI xs i = some x) : ixS (some (dl xs)) (.int i) k = k (.d x) := by
  have e : L2.atI (xs.map W.d) i = some (.d x) := by
    unfold L2.atI at h ⊢
    rw [List.length_map]
    cases e : L2.ixN xs.length i with
    | none => rw [e] at h; cases h
    | some j =>
      rw [e] at h
      show (xs.map W.d)[j]? = _
      rw [List.getElem?_map, show xs[j]? = some x from h]
      rfl
  show (match L2.atI (xs.map W.d) i with | some w => k w | none => .bad) = _
  rw [e]
@[simp] theorem exM_setIx (n : Nat) (i : Int) (x : D) (ρ : Env) (k : Unit → Store → SR) (s : Store) : exM (setIx (.ref n) (.int i) x) ρ k s = appS s[n]? fun xs => match L2.ixN xs.length i with
    | some j => k () (s.set n (.list (xs.set j (.d x))))
    | none => .bad := by
  show exS (setIx (.ref n) (.int i) x s) ρ k = _
  rw [setIx_ref]
  cases s[n]? with
  | none => rfl
  | some c =>
    cases c with
    | list xs =>
      show exS (match L2.ixN xs.length i with | some j => Res.ok () (s.set n (.list (xs.set j (.d x)))) | none => .bad) ρ k = (match L2.ixN xs.length i with | some j => k () (s.set n (.list (xs.set j (.d x)))) | none => .bad)
      cases L2.ixN xs.length i <;> rfl
    | _ => rfl
@[simp] theorem exM_getIx (n : Nat) (i : Int) (f : W → M β) (ρ : Env) (k : β → Store → SR) (s : Store) : exM (M.bind (getIx (.ref n) (.int i)) f) ρ k s = appS s[n]? fun xs => match L2.atI xs i with
    | some w => exM (f w) ρ k s
    | none => .bad := by
  show exS ((getIx (.ref n) (.int i) s).andThen f) ρ k = _
  rw [getIx_ref]
  cases s[n]? with
  | none => rfl
  | some c =>
    cases c with
    | list xs =>
      show exS ((match L2.atI xs i with | some w => Res.ok w s | none => .bad).andThen f) ρ k = (match L2.atI xs i with | some w => exM (f w) ρ k s | none => .bad)
      cases L2.atI xs i <;> rfl
    | _ => rfl
@[simp] theorem dl_set (xs : List D) (j : Nat) (x : D) : Cell.list ((wsD xs).set j (W.d x)) = dl (xs.set j x) := by
  unfold dl wsD
  rw [List.map_set]
@[simp] theorem evS_asgIx (o i e : E) (ρ : Env) (s : Store) : evS run gl (.asgIx o i e) ρ s = exM (M.bind ((sem run gl e).v ρ) fun w => M.bind ((sem run gl o).v ρ) fun x => M.bind ((sem run gl i).v ρ) fun y => M.bind (freeze w) fun w => M.bind (peek y) fun y => setIx x y w) ρ (fun _ s => .ok .next ρ s) s := by simp only [evS, exM, evE]
@[simp] theorem evS_augIx (op : Operator) (o i e : E) (ρ : Env) (s : Store) : evS run gl (.augIx op o i e) ρ s = exM (M.bind ((sem run gl o).v ρ) fun x => M.bind ((sem run gl i).v ρ) fun y => M.bind (peek y) fun y => M.bind (getIx x y) fun u => M.bind ((sem run gl e).v ρ) fun w => M.bind (peek u) fun u => M.bind (peek w) fun w => M.bind (lift (augD op u w)) fun z => setIx x y z) ρ (fun _ s => .ok .next ρ s) s := by simp only [evS, exM, evE]
@[simp] theorem evS_aug (i : Nat) (op : Operator) (e : E) (ρ : Env) (s : Store) : evS run gl (.aug i op e) ρ s = exM (M.bind (getVar i ρ) fun x => M.bind ((sem run gl e).v ρ) fun y => M.bind (peek x) fun x => M.bind (peek y) fun y => lift (augD op x y)) ρ (fun z s => .ok .next (setVar i (.d z) ρ) s) s := by simp only [evS, exM, evE]
@[simp] theorem evS_par2 (i j : Nat) (a b : E) (ρ : Env) (s : Store) : evS run gl (.par2 i j a b) ρ s = exM (M.bind ((sem run gl a).v ρ) fun x => M.bind ((sem run gl b).v ρ) fun y => M.pure (x, y)) ρ (fun p s => .ok .next (setVar j p.2 (setVar i p.1 ρ)) s) s := by simp only [evS, exM, evE]
@[simp] theorem evS_par3 (i j k : Nat) (a b c : E) (ρ : Env) (s : Store) : evS run gl (.par3 i j k a b c) ρ s = exM (M.bind ((sem run gl a).v ρ) fun x => M.bind ((sem run gl b).v ρ) fun y => M.bind ((sem run gl c).v ρ) fun z => M.pure (x, y, z)) ρ (fun p s => .ok .next (setVar k p.2.2 (setVar j p.2.1 (setVar i p.1 ρ))) s) s := by simp only [evS, exM, evE]
@[simp] theorem evS_raise (c f : Str) (e : E) (ρ : Env) (s : Store) : evS run gl (.raise c f e) ρ s = exM (M.bind ((sem run gl e).v ρ) fun w => M.bind (freeze w) fun y => M.pure y) ρ (fun y s => .ok (.exc c (some (f, y))) ρ s) s := by simp only [evS, exM, evE]
/-- behind a try -/
def tryS (c : Str) (i : Nat) (h : HX) (r : SR) : SR := match r with
  | .ok (.exc x d) ρ s => catchS c i h x d ρ s
  | r => r
@[simp] theorem evS_try (b : List S) (c : Str) (i : Nat) (h : HX) (ρ : Env) (s : Store) : evS run gl (.tryAs b c i h) ρ s = tryS c i h (evSs run gl b ρ s) := by
  rw [evS]
  rfl
@[simp] theorem tryS_ret (c : Str) (i : Nat) (h : HX) (w : W) (ρ : Env) (s : Store) : tryS c i h (.ok (.ret w) ρ s) = .ok (.ret w) ρ s := (rfl)
@[simp] theorem tryS_next (c : Str) (i : Nat) (h : HX) (ρ : Env) (s : Store) : tryS c i h (.ok .next ρ s) = .ok .next ρ s := (rfl)
@[simp] theorem tryS_exc (c : Str) (i : Nat) (h : HX) (x : Str) (d : Option (Str × D)) (ρ : Env) (s : Store) : tryS c i h (.ok (.exc x d) ρ s) = catchS c i h x d ρ s := (rfl)
@[simp] theorem retR_exc (x : Str) (d : Option (Str × D)) (ρ : Env) (s : Store) : retR (.ok (.exc x d) ρ s) = .exc x d s := (rfl)
theorem exM_exc {m : M α} {ρ : Env} {k : α → Store → SR} {s s' : Store} {c : Str} {d : Option (Str × D)} (h : m s = .exc c d s') : exM m ρ k s = .ok (.exc c d) ρ s' := by
  unfold exM
  rw [h]
  rfl
theorem exM_bind_exc {m : M α} {f : α → M β} {ρ : Env} {k : β → Store → SR} {s s' : Store} {c : Str} {d : Option (Str × D)} (h : m s = .exc c d s') : exM (M.bind m f) ρ k s = .ok (.exc c d) ρ s' := by
  show exS ((m s).andThen f) ρ k = _
  rw [h]
  rfl
theorem peeks_ds : ∀ (xs : List D) (s : Store), peeks (xs.map W.d) s = .ok xs s
  | [], _ => rfl
  | x :: xs, s => by
    show ((peeks (xs.map W.d) s).andThen fun ys => M.pure (x :: ys)) = _
    rw [peeks_ds xs s]
    rfl
theorem freezes_ds : ∀ (xs : List D) (s : Store), freezes (xs.map W.d) s = .ok xs s
  | [], _ => rfl
  | x :: xs, s => by
    show ((freezes (xs.map W.d) s).andThen fun ys => M.pure (x :: ys)) = _
    rw [freezes_ds xs s]
    rfl
/-- what a call by data comes to -/
theorem pcall_frz {f : Str} {ws : List W} {xs : List D} {w : W} {y : D} {s s1 st st' : Store} (hf : freezes ws s = .ok xs s1) (h : run f (xs.map .d) [] = .ok w st) (h2 : freeze w st = .ok y st') : pcall run f ws s = .ok y (if y.atom then s else s1) := by
  unfold pcall
  rw [hf]
  show (match run f (xs.map .d) [] with
    | .ok w st => (match freeze w st with
      | .ok x _ => if x.atom then Res.ok x s else .ok x s1
      | _ => .bad)
    | .exc c d _ => .exc c d s1
    | .bad => .bad) = _
  rw [h]
  show (match freeze w st with
      | .ok x _ => if x.atom then Res.ok x s else .ok x s1
      | _ => .bad) = _
  rw [h2]
  show (if y.atom then Res.ok y s else Res.ok y s1) = _
  split <;> rfl
theorem pcall_ds {f : Str} {xs : List D} {w : W} {y : D} {st st' : Store} (h : run f (xs.map .d) [] = .ok w st) (h2 : freeze w st = .ok y st') : pcall run f (xs.map .d) = M.pure y := by
  funext s
  rw [pcall_frz (freezes_ds xs s) h h2, ite_self]
  rfl
theorem pcall_exc {f : Str} {xs : List D} {c : Str} {d : Option (Str × D)} {st : Store} (h : run f (xs.map .d) [] = .exc c d st) (s : Store) : pcall run f (xs.map .d) s = .exc c d s := by
  unfold pcall
  rw [freezes_ds]
  show (match run f (xs.map .d) [] with
    | .ok w st => (match freeze w st with
      | .ok x _ => if x.atom then Res.ok x s else .ok x s
      | _ => .bad)
    | .exc c d _ => .exc c d s
    | .bad => .bad) = _
  rw [h]
theorem pcall0 {f : Str} {y : D} {st : Store} (h : run f [] [] = .ok (.d y) st) : pcall run f [] = M.pure y := pcall_ds (xs := []) h rfl
theorem pcall1 {f : Str} {a y : D} {st : Store} (h : run f [.d a] [] = .ok (.d y) st) : pcall run f [.d a] = M.pure y := pcall_ds (xs := [a]) h rfl
theorem pcall2 {f : Str} {a b y : D} {st : Store} (h : run f [.d a, .d b] [] = .ok (.d y) st) : pcall run f [.d a, .d b] = M.pure y := pcall_ds (xs := [a, b]) h rfl
theorem pcall3 {f : Str} {a b c y : D} {st : Store} (h : run f [.d a, .d b, .d c] [] = .ok (.d y) st) : pcall run f [.d a, .d b, .d c] = M.pure y := pcall_ds (xs := [a, b, c]) h rfl
theorem frzItems_ds (k : Nat) : ∀ (xs : List D) (s : Store), frzItems k (xs.map W.d) s = .ok xs s
  | [], _ => rfl
  | x :: xs, s => by
    show ((freezeN k (.d x) s).andThen fun x s => (frzItems k (xs.map W.d) s).andThen fun xs => M.pure (x :: xs)) = _
    rw [show freezeN k (.d x) = M.pure x by cases k <;> rfl]
    show ((frzItems k (xs.map W.d) s).andThen fun xs => M.pure (x :: xs)) = _
    rw [frzItems_ds k xs s]
    rfl
theorem freezeN_dl {k n : Nat} {st : Store} {xs : List D} (h : st[n]? = some (dl xs)) : freezeN (k + 1) (.ref n) st = .ok (.list xs) (st.set n (.frz (.list xs))) := by
  rw [freezeN_ref, h]
  show ((frzItems k (xs.map W.d) st).andThen _) = _
  rw [frzItems_ds]
  show (match st[n]? with | some (.list _) => Res.ok (D.list xs) (st.set n (.frz (.list xs))) | _ => .bad) = _
  rw [h]
  rfl
theorem freeze_dl {n : Nat} {st : Store} {xs : List D} (h : st[n]? = some (dl xs)) : freeze (.ref n) st = .ok (.list xs) (st.set n (.frz (.list xs))) := freezeN_dl (k := 5) h
/-- cells handed over, an atom back -/
theorem pcall_atom {f : Str} {ws : List W} {xs : List D} {y : D} {s s1 st : Store} (hp : freezes ws s = .ok xs s1) (h : run f (xs.map .d) [] = .ok (.d y) st) (ha : y.atom = true) : pcall run f ws s = .ok y s := by
  rw [pcall_frz hp h rfl, if_pos ha]
theorem split_E {c : Nat} {t : List Nat} (hc : c < 256) (h : t.length ≤ 1000000) : mtD .split (.str t) [.str [c]] = some (.list ((splitC [c] t).map .str)) := by
  simp [mtD, mt1D, hc, fits]
  omega
theorem spl_parts (c : Nat) : ∀ (k : Nat) (acc r : List Nat), (∀ p ∈ TL.spl [c] k acc r, p.length ≤ acc.length + r.length ∧ ∀ x ∈ p, x ∈ acc ∨ x ∈ r) ∧ (TL.spl [c] k acc r).length ≤ r.length + 1 ∧ TL.spl [c] k acc r ≠ []
  | k, acc, [] => by
    rw [TL.spl_nil]
    simp
  | 0, acc, x :: r => by
    unfold TL.spl
    split
    · obtain ⟨h1, h2, h3⟩ := spl_parts c 0 [] r
      refine ⟨fun p hp => ?_, by simp at h2 ⊢; omega, by simp⟩
      rcases List.mem_cons.mp hp with rfl | hp
      · exact ⟨by simp, fun y hy => .inl hy⟩
      · obtain ⟨q1, q2⟩ := h1 p hp
        simp at q1 q2
        exact ⟨by simp; omega, fun y hy => .inr (List.mem_cons_of_mem _ (q2 y hy))⟩
    · obtain ⟨h1, h2, h3⟩ := spl_parts c 0 (acc ++ [x]) r
      refine ⟨fun p hp => ?_, by simp at h2 ⊢; omega, h3⟩
      obtain ⟨q1, q2⟩ := h1 p hp
      simp at q1 q2
      refine ⟨by simp; omega, fun y hy => ?_⟩
      rcases q2 y hy with (h | h) | h
      · exact .inl h
      · exact .inr (by simp [h])
      · exact .inr (by simp [h])
  | k + 1, acc, x :: r => by
    unfold TL.spl
    obtain ⟨h1, h2, h3⟩ := spl_parts c k acc r
    refine ⟨fun p hp => ?_, by simp at h2 ⊢; omega, h3⟩
    obtain ⟨q1, q2⟩ := h1 p hp
    refine ⟨by simp; omega, fun y hy => ?_⟩
    rcases q2 y hy with h | h
    · exact .inl h
    · exact .inr (by simp [h])
theorem split_len {c : Nat} {t p : List Nat} (h : p ∈ splitC [c] t) : p.length ≤ t.length := by
  have := ((spl_parts c 0 [] t).1 p h).1
  simpa using this
theorem split_mem {c : Nat} {t p : List Nat} (h : p ∈ splitC [c] t) : ∀ x ∈ p, x ∈ t := fun x hx => by
  have := ((spl_parts c 0 [] t).1 p h).2 x hx
  simpa using this
theorem split_num (c : Nat) (t : List Nat) : (splitC [c] t).length ≤ t.length + 1 := (spl_parts c 0 [] t).2.1
theorem split_ne (c : Nat) (t : List Nat) : splitC [c] t ≠ [] := (spl_parts c 0 [] t).2.2
theorem lc_strs {body : D → M (Option D)} {ps : List (List Nat)} (g : List Nat → D) (h : ∀ p ∈ ps, body (.str p) = M.pure (some (g p))) (hl : ps.length ≤ 16777216) : lcLoop body (ps.map .str) [] = M.pure (ps.map g) := by
  rw [lcLoop_pure (fun x => match x with | .str p => some (g p) | _ => none) (fun x hx => ?_) (by simpa using hl)]
  · rw [List.reverse_nil, List.nil_append, List.filterMap_map]
    show M.pure (List.filterMap (fun p => some (g p)) ps) = _
    simp
  · obtain ⟨p, hp, rfl⟩ := List.mem_map.mp hx
    exact h p hp
theorem in_flat {x : D} {ys : List D} (h : x.flat = true) (h2 : ys.all D.flat = true) (hx : ∀ c, x ≠ .str [c]) : cmpD .In x (.list ys) = some (ys.any fun z => eqF z x) := by
  have go : (if x.flat && ys.all D.flat then some (ys.any fun z => eqF z x) else inDeep x ys) = some (ys.any fun z => eqF z x) := by rw [h, h2]; rfl
  cases x with
  | str s => match s, hx with
    | [], _ => exact go
    | [c], hx => exact absurd rfl (hx c)
    | _ :: _ :: _, _ => exact go
  | _ => exact go

theorem none_any {n : Nat} : ∀ {ys : List D} {ds : List PyData}, D.toPys ys = some ds → ds.any (fun y => PyData.eqv y .none) = ys.any isNon
  | [], ds, h => by cases h; rfl
  | y :: ys, ds, h => by
    obtain ⟨a, q1, q⟩ := Option.bind_eq_some_iff.mp (show ((D.toPy y).bind fun a => (D.toPys ys).map fun r => a :: r) = some ds from h)
    obtain ⟨r, q2, rfl⟩ := Option.map_eq_some_iff.mp q
    rw [List.any_cons, List.any_cons, none_any (n := n) q2]
    congr 1
    cases y with
    | non => cases q1; simp [PyData.eqv, isNon]
    | bool b => cases q1; simp [PyData.eqv, isNon]
    | int b => cases q1; simp [PyData.eqv, isNon]
    | str b => cases q1; simp [PyData.eqv, isNon]
    | list xs => obtain ⟨l, _, rfl⟩ := Option.map_eq_some_iff.mp (show (D.toPys xs).map PyData.list = some a from q1); simp [PyData.eqv, isNon]
    | tup xs => obtain ⟨l, _, rfl⟩ := Option.map_eq_some_iff.mp (show (D.toPys xs).map PyData.tuple = some a from q1); simp [PyData.eqv, isNon]
    | rol xs => obtain ⟨l, _, rfl⟩ := Option.map_eq_some_iff.mp (show (D.toPys xs).map PyData.list = some a from q1); simp [PyData.eqv, isNon]
theorem none_flat : ∀ {ys : List D}, (ys.any fun z => eqF z .non) = ys.any isNon
  | [] => rfl
  | y :: ys => by
    rw [List.any_cons, List.any_cons, none_flat]
    cases y <;> rfl
theorem none_go {n : Nat} (hn : n ≤ 60) {ys : List D} (h : ys.all (D.good n) = true) : (if D.non.flat && ys.all D.flat then some (ys.any fun z => eqF z D.non) else inDeep .non ys) = some (ys.any isNon) := by
  split
  · rw [none_flat]
  · obtain ⟨ds, q1, q2, q3, _⟩ := good_all (good_py n) ys h
    have e : (D.non).toPy = some .none := rfl
    simp only [inDeep, e, q1, Option.bind_some]
    rw [none_any (n := n) q1]
    simp [PyData.canLay0, q2, PyData.depth]
theorem none_inL {n : Nat} (hn : n ≤ 60) {ys : List D} (h : ys.all (D.good n) = true) : cmpD .In .non (.list ys) = some (ys.any isNon) := none_go hn h
theorem none_inT {n : Nat} (hn : n ≤ 60) {ys : List D} (h : ys.all (D.good n) = true) : cmpD .In .non (.tup ys) = some (ys.any isNon) := none_go hn h

theorem lc_f {pl : Type} {body : D → M (Option D)} (f : pl → D) (g : pl → Option D) : ∀ {ps : List pl} {acc : List D}, (∀ p ∈ ps, body (f p) = M.pure (g p)) → acc.length + ps.length ≤ 16777216 → lcLoop body (ps.map f) acc = M.pure (acc.reverse ++ ps.filterMap g)
  | [], acc, _, _ => by funext s; simp [lcLoop]
  | x :: xs, acc, h, hl => by
    funext s
    have e := h x (by simp)
    have ih : ∀ acc : List D, acc.length + xs.length ≤ 16777216 → lcLoop body (xs.map f) acc = M.pure (acc.reverse ++ xs.filterMap g) := fun acc hl => lc_f f g (fun y hy => h y (by simp [hy])) hl
    have hl : acc.length + (xs.length + 1) ≤ 16777216 := hl
    rw [List.map_cons, lcLoop_cons, e]
    cases hg : g x with
    | none =>
      show lcLoop body (xs.map f) acc s = _
      rw [ih acc (by omega), List.filterMap_cons, hg]
    | some y =>
      show (if decide (acc.length < 16777216) then lcLoop body (xs.map f) (y :: acc) s else .bad) = _
      rw [if_pos (by simp; omega), ih (y :: acc) (by simp; omega), List.filterMap_cons, hg]
      simp
theorem lc_g {pl : Type} {body : D → M (Option D)} {ps : List pl} (f g : pl → D) (h : ∀ p ∈ ps, body (f p) = M.pure (some (g p))) (hl : ps.length ≤ 16777216) : lcLoop body (ps.map f) [] = M.pure (ps.map g) := by
  rw [lc_f f (fun p => some (g p)) h (by simpa using hl)]
  simp
theorem strsL_map : ∀ ps : List (List Nat), strsL (ps.map .str) = some ps
  | [] => rfl
  | p :: ps => by simp [strsL, strsL_map ps]
theorem join_E {sep : List Nat} {ps : List (List Nat)} (h : (ps.map (·.length)).sum + ps.length * sep.length ≤ 16777216) : mtD .join (.str sep) [.list (ps.map .str)] = some (.str (joinC sep ps)) := by
  simp [mtD, mt1D, items, strsL_map, fits, h]
theorem joinC_nil : ∀ ps : List (List Nat), joinC [] ps = ps.flatten
  | [] => rfl
  | [p] => by simp [joinC, TL.joinL]
  | p :: q :: r => by
    have ih := joinC_nil (q :: r)
    unfold joinC at ih ⊢
    rw [TL.joinL, ih]
    simp
theorem index_E {c : Nat} {x : List Nat} (h : c ∈ x) : mtD .index (.str x) [.str [c]] = some (.int (x.idxOf c)) := by simp [mtD, mt1D, h]
theorem find_E {c : Nat} {x : List Nat} (h : c ∈ x) : mtD .find (.str x) [.str [c]] = some (.int (x.idxOf c)) := by simp [mtD, mt1D, h]

theorem range3 {i j c : Int} (h : (decide (c ≠ 0) && decide (c.natAbs < 1073741824) && Builtin.Range.small i j c && decide (0 ≤ Builtin.Range.rangeSize i j c)) = true) : rangeD [.int i, .int j, .int c] = some (rangeC i j c) := by
  simp only [rangeD]
  rw [if_pos h]
@[simp] theorem range1_E {j : Nat} : rangeD [.int (j : Int)] = if small62 j then some (rangeL 0 j) else none := by
  simp only [rangeD, Int.toNat_natCast]
theorem range1' {j : Nat} (h : j ≤ 1000000000) : rangeD [.int (j : Int)] = some ((List.range j).map fun (k : Nat) => .int (k : Int)) := by
  have : small62 (j : Int) = true := decide_eq_true (by omega)
  rw [range1_E, if_pos this]
  simp [rangeL]

theorem andS_assoc (r : SR) (f g : Env → Store → SR) : andS (andS r f) g = andS r fun ρ s => andS (f ρ s) g := by
  cases r with
  | bad => rfl
  | ok fl ρ s => cases fl <;> rfl
theorem evSs_fun (st : S) (ss : List S) : evSs run gl (st :: ss) = fun ρ s => andS (evS run gl st ρ s) (evSs run gl ss) := by
  funext ρ s
  exact evSs_cons st ss ρ s

theorem step_asg {i : Nat} {e : E} {w : W} {rest : List S} {ρ : Env} {s : Store} (h : (sem run gl e).v ρ = M.pure w) : evSs run gl (.asg (.name i) e :: rest) ρ s = evSs run gl rest (setVar i w ρ) s := by
  rw [evSs_cons, evS_asg, h, exM_pure, bindPt_name, asgS_some, andS_next]
theorem step_asgM {i : Nat} {e : E} {w : W} {rest : List S} {ρ : Env} {s s' : Store} (h : (sem run gl e).v ρ s = .ok w s') : evSs run gl (.asg (.name i) e :: rest) ρ s = evSs run gl rest (setVar i w ρ) s' := by
  rw [evSs_cons, evS_asg, exM_ok h, bindPt_name, asgS_some, andS_next]
theorem step_ifset {c : E} {i : Nat} {d : D} {b : Bool} {rest : List S} {ρ : Env} {s : Store} (h : (sem run gl c).t ρ = M.pure b) : evSs run gl (.ite c [.asg (.name i) (.con d)] [] :: rest) ρ s = evSs run gl rest (if b then setVar i (.d d) ρ else ρ) s := by
  rw [evSs_cons, evS_ite, h, exM_pure]
  cases b <;> simp
/-- a test that does not hold -/
theorem step_no {c : E} {a : List S} {rest : List S} {ρ : Env} {s s' : Store} (h : (sem run gl c).t ρ s = .ok false s') : evSs run gl (.ite c a [] :: rest) ρ s = evSs run gl rest ρ s' := by
  rw [evSs_cons, evS_ite, exM_ok h]
  simp
theorem step_expr {e : E} {w : W} {rest : List S} {ρ : Env} {s s' : Store} (h : (sem run gl e).v ρ s = .ok w s') : evSs run gl (.expr e :: rest) ρ s = evSs run gl rest ρ s' := by
  rw [evSs_cons, evS_expr, exM_ok h, andS_next]
theorem step_for {p : Pt} {it : E} {b : List S} {rest : List S} {ρ ρ' : Env} {s s' : Store} {xs : List D} (h : (sem run gl it).i ρ = M.pure xs) (hl : forLoop (forBody p (evSs run gl b)) xs ρ s = .ok .next ρ' s') : evSs run gl (.for p it b :: rest) ρ s = evSs run gl rest ρ' s' := by
  rw [evSs_cons, evS_for, h, exM_pure, hl, andS_next]
theorem lc_v {elt it : E} {tg : Pt} {cs : List E} {own : List Nat} {ρ : Env} {xs ys : List D} (h1 : (sem run gl it).i ρ = M.pure xs) (h2 : lcLoop (lcBody tg (sems run gl cs) (sem run gl elt) (wipeE ρ own)) xs [] = M.pure ys) : (sem run gl (.lc false elt tg it cs own)).v ρ = M.pure (.d (.list ys)) := by
  rw [sem_lc, ofV_v, h1, pure_bindM, h2, pure_bindM, alloc_f]

theorem join_v {e : E} {sep : List Nat} {xs : List D} {z : D} {ρ : Env} (h : (sem run gl e).v ρ = M.pure (.d (.list xs))) (h2 : mtD .join (.str sep) [.list xs] = some z) : (sem run gl (.mt false .join (.con (.str sep)) [e])).v ρ = M.pure (.d z) := by
  rw [sem_mt, ofV_v, sem_con, ofV_v, pure_bindM, peek_d, pure_bindM, isStr_str, guard_true, pure_bindM, sems_cons, sems_nil, smL_cons, smL_nil, h]
  simp only [pure_bindM, peek_d, peeks_cons, peeks_nil, h2, lift_some, alloc_f]
end
end Cr

namespace Cr
open PySem
def stands (st : Store) : Nat → W → Option D
  | _, .d x => some x
  | 0, .ref _ => none
  | k + 1, .ref n => match st[n]? with
    | some (.list ws) => (ws.mapM (stands st k)).map .list
    | some (.tup ws) => (ws.mapM (stands st k)).map .tup
    | some (.frz d) => some d
    | none => none
@[simp] theorem stands_d (st : Store) (k : Nat) (x : D) : stands st k (.d x) = some x := by cases k <;> rfl
theorem stands_ref (st : Store) (k n : Nat) : stands st (k + 1) (.ref n) = match st[n]? with
    | some (.list ws) => (ws.mapM (stands st k)).map .list
    | some (.tup ws) => (ws.mapM (stands st k)).map .tup
    | some (.frz d) => some d
    | none => none := rfl
theorem mapM_mono {α β : Type} {f g : α → Option β} : ∀ {l : List α} {r : List β}, (∀ a ∈ l, ∀ b, f a = some b → g a = some b) → l.mapM f = some r → l.mapM g = some r
  | [], r, _, h => by simpa using h
  | a :: l, r, hm, h => by
    rw [List.mapM_cons] at h ⊢
    obtain ⟨b, h1, h⟩ := Option.bind_eq_some_iff.mp h
    obtain ⟨bs, h2, h⟩ := Option.bind_eq_some_iff.mp h
    rw [hm a (by simp) b h1, mapM_mono (fun a ha b => hm a (by simp [ha]) b) h2]
    exact h
theorem stands_mono {st : Store} : ∀ {k : Nat} {w : W} {x : D}, stands st k w = some x → stands st (k + 1) w = some x
  | k, .d x, y, h => by rw [stands_d] at h ⊢; exact h
  | 0, .ref n, y, h => by cases h
  | k + 1, .ref n, y, h => by
    rw [stands_ref] at h
    rw [stands_ref]
    cases e : st[n]? with
    | none => rw [e] at h; cases h
    | some c =>
      rw [e] at h
      cases c with
      | frz d => exact h
      | list ws =>
        obtain ⟨r, h1, rfl⟩ := Option.map_eq_some_iff.mp h
        exact Option.map_eq_some_iff.mpr ⟨r, mapM_mono (fun a _ b hb => stands_mono hb) h1, rfl⟩
      | tup ws =>
        obtain ⟨r, h1, rfl⟩ := Option.map_eq_some_iff.mp h
        exact Option.map_eq_some_iff.mpr ⟨r, mapM_mono (fun a _ b hb => stands_mono hb) h1, rfl⟩
theorem stands_le {st : Store} {w : W} {x : D} {k j : Nat} (h : stands st k w = some x) (hk : k ≤ j) : stands st j w = some x := by
  obtain ⟨d, rfl⟩ := Nat.exists_eq_add_of_le hk
  induction d with
  | zero => exact h
  | succ d ih => exact stands_mono (ih (Nat.le_add_right _ _))
theorem stands_fun {st : Store} {w : W} {x y : D} {k j : Nat} (h : stands st k w = some x) (h2 : stands st j w = some y) : x = y := by
  have a := stands_le h (Nat.le_max_left k j)
  rw [stands_le h2 (Nat.le_max_right k j)] at a
  exact (Option.some.inj a).symm
@[simp] theorem seenS_W (ws : List W) (k : D → SR) : seenS (some (.list ws)) k = k (.list (ws.map skel)) := (rfl)
@[simp] theorem seenS_T (ws : List W) (k : D → SR) : seenS (some (.tup ws)) k = k (.tup (ws.map skel)) := (rfl)
theorem ixS_W {ws : List W} {j : Int} {w : W} {k : W → SR} (h : L2.atI ws j = some w) : ixS (some (.list ws)) (.int j) k = k w := by
  show (match L2.atI ws j with | some w => k w | none => .bad) = _
  rw [h]
theorem ixS_T {ws : List W} {j : Int} {w : W} {k : W → SR} (h : L2.atI ws j = some w) : ixS (some (.tup ws)) (.int j) k = k w := by
  show (match L2.atI ws j with | some w => k w | none => .bad) = _
  rw [h]
/-- some cells of st0 are frozen in st -/
def Part (st0 st : Store) : Prop := ∀ m : Nat, st[m]? = st0[m]? ∨ ∃ y j, stands st0 j (.ref m) = some y ∧ st[m]? = some (.frz y)
theorem Part.refl (st : Store) : Part st st := fun _ => .inl rfl
theorem Part.stands {st0 st : Store} (p : Part st0 st) : ∀ {k : Nat} {w : W} {x : D}, stands st0 k w = some x → Cr.stands st k w = some x
  | k, .d x, y, h => by rw [stands_d] at h ⊢; exact h
  | 0, .ref n, y, h => by cases h
  | k + 1, .ref n, y, h => by
    rcases p n with e | ⟨z, j, e1, e2⟩
    · rw [stands_ref] at h ⊢
      rw [e]
      cases e : st0[n]? with
      | none => rw [e] at h; cases h
      | some c =>
        rw [e] at h
        cases c with
        | frz d => exact h
        | list ws =>
          obtain ⟨r, h1, rfl⟩ := Option.map_eq_some_iff.mp h
          exact Option.map_eq_some_iff.mpr ⟨r, mapM_mono (fun a _ b hb => p.stands hb) h1, rfl⟩
        | tup ws =>
          obtain ⟨r, h1, rfl⟩ := Option.map_eq_some_iff.mp h
          exact Option.map_eq_some_iff.mpr ⟨r, mapM_mono (fun a _ b hb => p.stands hb) h1, rfl⟩
    · have := stands_fun e1 h
      subst this
      rw [stands_ref, e2]
theorem Part.put {st0 st : Store} (p : Part st0 st) {n k : Nat} {x : D} {c : Cell} (h : Cr.stands st0 k (.ref n) = some x) (hn : st[n]? = some c) : Part st0 (st.set n (.frz x)) := fun m => by
  by_cases e : n = m
  · subst e
    exact .inr ⟨x, k, h, by rw [List.getElem?_set_self (List.getElem?_eq_some_iff.mp hn).1]⟩
  · rw [List.getElem?_set_ne e]
    exact p m
theorem freezeN_part {st0 : Store} : ∀ (k : Nat) (w : W) (st : Store) (x : D), stands st0 k w = some x → Part st0 st → ∀ k', k ≤ k' →
    ∃ st', freezeN k' w st = .ok x st' ∧ Part st0 st' ∧ ∀ m, st'[m]? ≠ st[m]? → ∃ y, stands st0 k (.ref m) = some y
  | k, .d z, st, x, h, p, k', _ => by
    rw [stands_d] at h
    cases h
    exact ⟨st, by cases k' <;> rfl, p, fun m hm => absurd rfl hm⟩
  | 0, .ref n, st, x, h, _, _, _ => by cases h
  | k + 1, .ref n, st, x, h, p, 0, hk => by omega
  | k + 1, .ref n, st, x, h, p, k' + 1, hk => by
    cases hs : stands st0 k (.ref n) with
    | some x' =>
      have := stands_fun hs h
      subst this
      obtain ⟨st', e1, e2, e3⟩ := freezeN_part k (.ref n) st x' hs p (k' + 1) (by omega)
      exact ⟨st', e1, e2, fun m hm => by
        obtain ⟨y, hy⟩ := e3 m hm
        exact ⟨y, stands_mono hy⟩⟩
    | none =>
      have items : ∀ (ws : List W) (xs : List D) (st : Store), ws.mapM (stands st0 k) = some xs → Part st0 st → ∃ st', frzItems k' ws st = .ok xs st' ∧ Part st0 st' ∧ ∀ m, st'[m]? ≠ st[m]? → ∃ y, stands st0 k (.ref m) = some y := by
        intro ws
        induction ws with
        | nil =>
          intro xs st h p
          have h : some [] = some xs := h
          cases h
          exact ⟨st, rfl, p, fun m hm => absurd rfl hm⟩
        | cons w ws ih =>
          intro xs st h p
          rw [List.mapM_cons] at h
          obtain ⟨b, h1, h⟩ := Option.bind_eq_some_iff.mp h
          obtain ⟨bs, h2, h⟩ := Option.bind_eq_some_iff.mp h
          cases h
          obtain ⟨st1, a1, a2, a3⟩ := freezeN_part k w st b h1 p k' (by omega)
          obtain ⟨st2, b1, b2, b3⟩ := ih bs st1 h2 a2
          refine ⟨st2, ?_, b2, fun m hm => ?_⟩
          · show ((freezeN k' w st).andThen fun x s => (frzItems k' ws s).andThen fun xs => M.pure (x :: xs)) = _
            rw [a1]
            show ((frzItems k' ws st1).andThen fun xs => M.pure (b :: xs)) = _
            rw [b1]
            rfl
          · by_cases e : st2[m]? = st1[m]?
            · exact a3 m (by rw [← e]; exact hm)
            · exact b3 m e
      have frzd : ∀ y, st[n]? = some (.frz y) → y = x → ∃ st', freezeN (k' + 1) (.ref n) st = .ok x st' ∧ Part st0 st' ∧ ∀ m, st'[m]? ≠ st[m]? → ∃ y, stands st0 (k + 1) (.ref m) = some y := fun y e1 e2 => by
        subst e2
        refine ⟨st, ?_, p, fun m hm => absurd rfl hm⟩
        rw [freezeN_ref, e1]
      rcases p n with e | ⟨y, j, e1, e2⟩
      · have h0 := h
        rw [stands_ref] at h
        cases e0 : st0[n]? with
        | none => rw [e0] at h; cases h
        | some c =>
          rw [e0] at h
          rw [e0] at e
          cases c with
          | frz d =>
            have h : some d = some x := h
            cases h
            exact frzd _ e rfl
          | list ws =>
            obtain ⟨xs, h1, rfl⟩ := Option.map_eq_some_iff.mp h
            obtain ⟨st1, a1, a2, a3⟩ := items ws xs st h1 p
            have same : st1[n]? = st[n]? := Classical.byContradiction fun hne => by
              obtain ⟨y, hy⟩ := a3 n hne
              rw [hs] at hy
              cases hy
            refine ⟨st1.set n (.frz (.list xs)), ?_, a2.put h0 (same.trans e), fun m hm => ?_⟩
            · rw [freezeN_ref, e]
              show (frzItems k' ws st).andThen _ = _
              rw [a1]
              show (match st1[n]? with | some (.list _) => Res.ok (D.list xs) (st1.set n (.frz (.list xs))) | _ => .bad) = _
              rw [same, e]
            · by_cases en : n = m
              · subst en
                exact ⟨_, h0⟩
              · rw [List.getElem?_set_ne en] at hm
                obtain ⟨y, hy⟩ := a3 m hm
                exact ⟨y, stands_mono hy⟩
          | tup ws =>
            obtain ⟨xs, h1, rfl⟩ := Option.map_eq_some_iff.mp h
            obtain ⟨st1, a1, a2, a3⟩ := items ws xs st h1 p
            have same : st1[n]? = st[n]? := Classical.byContradiction fun hne => by
              obtain ⟨y, hy⟩ := a3 n hne
              rw [hs] at hy
              cases hy
            refine ⟨st1.set n (.frz (.tup xs)), ?_, a2.put h0 (same.trans e), fun m hm => ?_⟩
            · rw [freezeN_ref, e]
              show (frzItems k' ws st).andThen _ = _
              rw [a1]
              show (match st1[n]? with | some (.tup _) => Res.ok (D.tup xs) (st1.set n (.frz (.tup xs))) | _ => .bad) = _
              rw [same, e]
            · by_cases en : n = m
              · subst en
                exact ⟨_, h0⟩
              · rw [List.getElem?_set_ne en] at hm
                obtain ⟨y, hy⟩ := a3 m hm
                exact ⟨y, stands_mono hy⟩
      · exact frzd y e2 (stands_fun e1 h)
/-- freezing what stands for data -/
theorem freeze_stands {st : Store} {w : W} {x : D} {k : Nat} (h : stands st k w = some x) (hk : k ≤ 6) : ∃ st', freeze w st = .ok x st' ∧ Part st st' := by
  obtain ⟨st', e1, e2, _⟩ := freezeN_part k w st x h (Part.refl st) 6 hk
  exact ⟨st', e1, e2⟩
theorem freezes_part {st0 : Store} : ∀ {ws : List W} {xs : List D} {st : Store}, ws.mapM (stands st0 6) = some xs → Part st0 st → ∃ st', freezes ws st = .ok xs st' ∧ Part st0 st'
  | [], xs, st, h, p => by
    have h : some [] = some xs := h
    cases h
    exact ⟨st, rfl, p⟩
  | w :: ws, xs, st, h, p => by
    rw [List.mapM_cons] at h
    obtain ⟨b, h1, h⟩ := Option.bind_eq_some_iff.mp h
    obtain ⟨bs, h2, h⟩ := Option.bind_eq_some_iff.mp h
    cases h
    obtain ⟨st1, a1, a2, _⟩ := freezeN_part 6 w st b h1 p 6 (Nat.le_refl _)
    obtain ⟨st2, b1, b2⟩ := freezes_part h2 a2
    refine ⟨st2, ?_, b2⟩
    show ((freezeN 6 w st).andThen fun x s => (freezes ws s).andThen fun xs => M.pure (x :: xs)) = _
    rw [a1]
    show ((freezes ws st1).andThen fun xs => M.pure (b :: xs)) = _
    rw [b1]
    rfl
section
variable {run : Str → List W → M W}
/-- cells handed over, an atom back: the store stays -/
theorem pcall_st {f : Str} {ws : List W} {xs : List D} {y : D} {s st : Store} (hw : ws.mapM (stands s 6) = some xs) (h : run f (xs.map .d) [] = .ok (.d y) st) (ha : y.atom = true) : pcall run f ws s = .ok y s := by
  obtain ⟨s1, e, _⟩ := freezes_part hw (Part.refl s)
  exact pcall_atom e h ha
/-- what stands in the store is told -/
theorem pcall_ref {f : Str} {xs : List D} {w : W} {y : D} {st : Store} (h : run f (xs.map .d) [] = .ok w st) (hy : stands st 6 w = some y) : pcall run f (xs.map .d) = M.pure y := by
  obtain ⟨st', e, _⟩ := freeze_stands hy (Nat.le_refl _)
  exact pcall_ds h e
end
theorem mapM_d (st : Store) (k : Nat) : ∀ xs : List D, (wsD xs).mapM (stands st k) = some xs
  | [] => rfl
  | x :: xs => by
    rw [wsD_cons, List.mapM_cons, stands_d, mapM_d st k xs]
    rfl
theorem stands_dl {st : Store} {n k : Nat} {xs : List D} (h : st[n]? = some (dl xs)) : stands st (k + 1) (.ref n) = some (.list xs) := by
  rw [stands_ref, h]
  show ((wsD xs).mapM (stands st k)).map D.list = _
  rw [mapM_d]
  rfl
section
variable {α β : Type} {run : Str → List W → M W} {gl : Str → Option D}
theorem bind_ok {m : M α} {f : α → M β} {s s' : Store} {a : α} (h : m s = .ok a s') : M.bind m f s = f a s' := by
  show (m s).andThen f = _
  rw [h]
  rfl
theorem listw2 {e1 e2 : E} {ρ : Env} {s s1 s2 : Store} {w1 w2 : W} (h1 : (sem run gl e1).v ρ s = .ok w1 s1) (h2 : (sem run gl e2).v ρ s1 = .ok w2 s2) : (sem run gl (.listw [e1, e2])).v ρ s = .ok (.ref s2.length) (s2 ++ [.list [w1, w2]]) := by
  rw [sem_listw, ofV_v, sems_cons, sems_cons, sems_nil, smL_cons]
  show ((M.bind ((sem run gl e1).v ρ) _) s).andThen _ = _
  rw [bind_ok h1]
  show ((M.bind (M.bind ((sem run gl e2).v ρ) _) _) s1).andThen _ = _
  rw [bind_assocM, bind_ok h2]
  rfl
theorem step_st {st : S} {rest : List S} {ρ ρ' : Env} {s s' : Store} (h : evS run gl st ρ s = .ok .next ρ' s') : evSs run gl (st :: rest) ρ s = evSs run gl rest ρ' s' := by
  rw [evSs_cons, h, andS_next]
end
end Cr

namespace K78
open PySem L2 Cr
def topS (i : Nat) : Stmt := PySem.Challenge.pw_askewread_k78_notes_of_pictures.main.body.getD i (.Pass ⟨0, 0, 0, 0⟩)
def gvs : List (Str × GV) := [("FIGURES", .str [48, 49, 50, 51, 52, 53, 54, 55, 56, 57]), ("MOST_FIGURES", .int 40), ("LEAST_SIZE", .int 1), ("MOST_SIZE", .int 8), ("DARK", .str [35]), ("LIGHT", .str [46]), ("MOST_SIDE", .int 300), ("LEVELS", .str [48, 49, 50, 51, 52, 53, 54, 55, 56, 57, 97, 98, 99, 100, 101, 102, 103]), ("MOST_LEVEL", .int 16)]
def b_read_whole : Fn := ⟨1, 3, [(.asg (.name 1) (.ite (.cmp .Eq (.slice false false true (.var 0) .nil (.con (.int 1))) (.con (.str [45]))) (.slice false true false (.var 0) (.con (.int 1)) .nil) (.var 0))), (.ite (.or (.not (.cmp2 .LtE .LtE (.con (.int 1)) (.len (.var 1)) (.glob "MOST_FIGURES"))) (.not (.bi false .all [(.lc false (.cmp .In (.var 2) (.glob "FIGURES")) (.name 2) (.var 1) [] [2])]))) [(.ret (.con .non))] []), (.ite (.and (.cmp .Eq (.idx (.var 1) (.con (.int 0))) (.con (.str [48]))) (.cmp .NotEq (.var 0) (.con (.str [48])))) [(.ret (.con .non))] []), (.ret (.bi false .int [(.var 0)]))]⟩
def b_lines_of : Fn := ⟨1, 1, [(.ret (.mt true .split (.var 0) [(.con (.str [10]))]))]⟩
def b_is_whole : Fn := ⟨1, 1, [(.ret (.and (.isI (.var 0) .int) (.not (.isI (.var 0) .bool))))]⟩
def b_size_of_side : Fn := ⟨1, 1, [(.ite (.or (.not (.call false "is_whole" [(.var 0)])) (.or (.cmp .NotEq (.bin false .Mod (.bin false .Sub (.var 0) (.con (.int 17))) (.con (.int 4))) (.con (.int 0))) (.not (.cmp2 .LtE .LtE (.glob "LEAST_SIZE") (.bin false .FloorDiv (.bin false .Sub (.var 0) (.con (.int 17))) (.con (.int 4))) (.glob "MOST_SIZE"))))) [(.ret (.con .non))] []), (.ret (.bin false .FloorDiv (.bin false .Sub (.var 0) (.con (.int 17))) (.con (.int 4))))]⟩
def b_is_square : Fn := ⟨1, 3, [(.ite (.or (.not (.isI (.var 0) .list)) (.isN false (.call false "size_of_side" [(.len (.var 0))]))) [(.ret (.con (.bool false)))] []), (.ite (.not (.bi false .all [(.lc false (.and (.isI (.var 1) .str) (.cmp .Eq (.len (.var 1)) (.len (.var 0)))) (.name 1) (.var 0) [] [1])])) [(.ret (.con (.bool false)))] []), (.ret (.bi false .all [(.lc false (.bi false .all [(.lc false (.cmp .In (.var 2) (.tup [(.glob "DARK"), (.glob "LIGHT")])) (.name 2) (.var 1) [] [2])]) (.name 1) (.var 0) [] [1])]))]⟩
def b_is_picture : Fn := ⟨2, 4, [(.ite (.or (.not (.isI (.var 0) .list)) (.not (.cmp2 .LtE .LtE (.con (.int 1)) (.len (.var 0)) (.glob "MOST_SIDE")))) [(.ret (.con (.bool false)))] []), (.ite (.not (.bi false .all [(.lc false (.and (.isI (.var 2) .list) (.cmp .Gt (.len (.var 2)) (.con (.int 0)))) (.name 2) (.var 0) [] [2])])) [(.ret (.con (.bool false)))] []), (.ite (.or (.cmp .NotEq (.lenSC (.len (.var 2)) (.name 2) (.var 0) [] [2]) (.con (.int 1))) (.cmp .Gt (.len (.idx (.var 0) (.con (.int 0)))) (.glob "MOST_SIDE"))) [(.ret (.con (.bool false)))] []), (.ret (.bi false .all [(.lc false (.bi false .all [(.lc false (.and (.call false "is_whole" [(.var 3)]) (.cmp2 .LtE .LtE (.con (.int 0)) (.var 3) (.var 1))) (.name 3) (.var 2) [] [3])]) (.name 2) (.var 0) [] [2])]))]⟩
def b_show_picture : Fn := ⟨1, 3, [(.ret (.mt false .join (.con (.str [10])) [(.lc false (.mt false .join (.con (.str [])) [(.lc false (.idx (.glob "LEVELS") (.var 2)) (.name 2) (.var 1) [] [2])]) (.name 1) (.var 0) [] [1])]))]⟩
def b_read_row : Fn := ⟨1, 2, [(.ite (.or (.not (.var 0)) (.not (.bi false .all [(.lc false (.cmp .In (.var 1) (.glob "LEVELS")) (.name 1) (.var 0) [] [1])]))) [(.ret (.con .non))] []), (.ret (.lc true (.mt false .index (.glob "LEVELS") [(.var 1)]) (.name 1) (.var 0) [] [1]))]⟩
def b_read_picture : Fn := ⟨1, 5, [(.asg (.name 1) (.listw [])), (.for (.tup [(.name 2), (.name 3)]) (.enum (.call false "lines_of" [(.var 0)])) [(.asg (.name 4) (.call true "read_row" [(.var 3)])), (.ite (.or (.isN false (.var 4)) (.and (.var 1) (.cmp .NotEq (.len (.var 4)) (.len (.idx (.var 1) (.con (.int 0))))))) [(.raise "BadLine" "line" (.var 2))] []), (.expr (.appw (.var 1) (.var 4)))]), (.ite (.not (.call false "is_picture" [(.var 1), (.glob "MOST_LEVEL")])) [(.raise "BadLine" "line" (.un .USub (.con (.int 1))))] []), (.ret (.var 1))]⟩
def b_packed_row : Fn := ⟨1, 5, [(.asg (.name 1) (.list true [(.con (.int 0))])), (.asg (.name 2) (.con (.int 0))), (.for (.name 3) (.var 0) [(.ite (.cmp .NotEq (.var 3) (.var 2)) [(.expr (.app (.var 1) (.con (.int 0)))), (.asg (.name 2) (.var 3))] []), (.augIx .Add (.var 1) (.un .USub (.con (.int 1))) (.con (.int 1)))]), (.ret (.mt false .join (.con (.str [32])) [(.lc false (.bi false .str [(.var 4)]) (.name 4) (.var 1) [] [4])]))]⟩
def b_unpacked_row : Fn := ⟨1, 6, [(.asg (.name 1) (.lc false (.call false "read_whole" [(.var 5)]) (.name 5) (.mt false .split (.var 0) [(.con (.str [32]))]) [] [5])), (.ite (.or (.cmp .In (.con .non) (.var 1)) (.or (.cmp .Lt (.idx (.var 1) (.con (.int 0))) (.con (.int 0))) (.or (.not (.bi false .all [(.lc false (.cmp .GtE (.var 4) (.con (.int 1))) (.name 4) (.slice false true false (.var 1) (.con (.int 1)) .nil) [] [4])])) (.not (.cmp2 .LtE .LtE (.con (.int 1)) (.bi false .sum [(.var 1)]) (.con (.int 300))))))) [(.ret (.con .non))] []), (.asg (.name 2) (.list true [])), (.for (.tup [(.name 3), (.name 4)]) (.enum (.var 1)) [(.expr (.ext (.var 2) (.bin false .Mult (.list false [(.bin false .Mod (.var 3) (.con (.int 2)))]) (.var 4))))]), (.ret (.var 2))]⟩
def b_show_packed : Fn := ⟨1, 4, [(.asg (.name 1) (.list true [])), (.for (.tup [(.name 2), (.name 3)]) (.enum (.var 0)) [(.expr (.app (.var 1) (.ite (.and (.cmp .Gt (.var 2) (.con (.int 0))) (.cmp .Eq (.var 3) (.idx (.var 0) (.bin false .Sub (.var 2) (.con (.int 1)))))) (.con (.str [61])) (.call false "packed_row" [(.var 3)]))))]), (.ret (.mt false .join (.con (.str [10])) [(.var 1)]))]⟩
def b_read_packed : Fn := ⟨1, 5, [(.asg (.name 1) (.listw [])), (.for (.tup [(.name 2), (.name 3)]) (.enum (.call false "lines_of" [(.var 0)])) [(.asg (.name 4) (.ite (.and (.cmp .Eq (.var 3) (.con (.str [61]))) (.var 1)) (.bi true .list [(.idx (.var 1) (.un .USub (.con (.int 1))))]) (.call true "unpacked_row" [(.var 3)]))), (.ite (.or (.isN false (.var 4)) (.and (.var 1) (.cmp .NotEq (.len (.var 4)) (.len (.idx (.var 1) (.con (.int 0))))))) [(.raise "BadLine" "line" (.var 2))] []), (.ite (.and (.cmp .NotEq (.var 3) (.con (.str [61]))) (.and (.var 1) (.cmp .Eq (.var 4) (.idx (.var 1) (.un .USub (.con (.int 1))))))) [(.raise "BadLine" "line" (.var 2))] []), (.expr (.appw (.var 1) (.var 4)))]), (.ite (.not (.call false "is_picture" [(.var 1), (.con (.int 1))])) [(.raise "BadLine" "line" (.un .USub (.con (.int 1))))] []), (.ret (.var 1))]⟩
def b_show_square : Fn := ⟨1, 1, [(.ret (.mt false .join (.con (.str [10])) [(.var 0)]))]⟩
def b_read_square_text : Fn := ⟨1, 2, [(.asg (.name 1) (.call true "lines_of" [(.var 0)])), (.ite (.not (.call false "is_square" [(.var 1)])) [(.raise "BadLine" "line" (.un .USub (.con (.int 1))))] []), (.ret (.var 1))]⟩
def b_square_line : Fn := ⟨1, 1, [(.ret (.mt false .join (.con (.str [47])) [(.var 0)]))]⟩
def b_read_square_line : Fn := ⟨1, 2, [(.asg (.name 1) (.mt true .split (.var 0) [(.con (.str [47]))])), (.ret (.ite (.call false "is_square" [(.var 1)]) (.var 1) (.con .non)))]⟩
def b_law_numbers : Fn := ⟨3, 7, [(.asg (.name 3) (.bin false .Mult (.con (.int 1000003)) (.bin false .Add (.var 1) (.con (.int 1))))), (.ite (.cmp .Lt (.var 1) (.len (.var 0))) [(.asg (.name 3) (.bi false .int [(.idx (.var 0) (.var 1))]))] []), (.ite (.cmp .Lt (.var 3) (.con (.int 0))) [(.asg (.name 3) (.bin false .Sub (.con (.int 1)) (.bin false .Mult (.con (.int 2)) (.var 3))))] []), (.asg (.name 4) (.list true [])), (.for (.name 5) (.range [(.var 2)]) [(.ite (.cmp .GtE (.var 3) (.bin false .Pow (.con (.int 10)) (.con (.int 18)))) [(.expr (.app (.var 4) (.bin false .Mod (.var 3) (.con (.int 1009))))), (.asg (.name 3) (.bin false .FloorDiv (.var 3) (.con (.int 1009))))] [(.asg (.name 6) (.bin false .Mod (.bin false .Add (.bin false .Add (.bin false .Mult (.var 3) (.con (.int 48271))) (.bin false .Mult (.bin false .Add (.var 5) (.con (.int 1))) (.con (.int 69621)))) (.bin false .Mult (.var 1) (.con (.int 4001)))) (.con (.int 2147483647)))), (.asg (.name 6) (.bin false .Mod (.bin false .Add (.bin false .Mult (.var 6) (.var 6)) (.bin false .Mult (.con (.int 16807)) (.bin false .Add (.var 5) (.con (.int 3))))) (.con (.int 2147483629)))), (.expr (.app (.var 4) (.bin false .Mod (.bin false .FloorDiv (.var 6) (.con (.int 7))) (.con (.int 1009)))))])]), (.ret (.var 4))]⟩
def b_law_same : Fn := ⟨2, 3, [(.ite (.isN false (.var 1)) [(.ret (.isN false (.var 0)))] []), (.ite (.isI (.var 1) .bool) [(.ret (.and (.isI (.var 0) .bool) (.cmp .Eq (.var 0) (.var 1))))] []), (.ite (.isI (.var 1) .int) [(.ret (.and (.isI (.var 0) .int) (.and (.not (.isI (.var 0) .bool)) (.cmp .Eq (.var 0) (.var 1)))))] []), (.ite (.isI (.var 1) .str) [(.ret (.and (.isI (.var 0) .str) (.cmp .Eq (.var 0) (.var 1))))] []), (.ite (.or (.and (.isI (.var 1) .list) (.not (.isI (.var 0) .list))) (.and (.isI (.var 1) .tuple) (.not (.isI (.var 0) .tuple)))) [(.ret (.con (.bool false)))] []), (.ite (.cmp .NotEq (.len (.var 0)) (.len (.var 1))) [(.ret (.con (.bool false)))] []), (.for (.name 2) (.range [(.len (.var 1))]) [(.ite (.not (.call false "_law_same" [(.idx (.var 0) (.var 2)), (.idx (.var 1) (.var 2))])) [(.ret (.con (.bool false)))] [])]), (.ret (.con (.bool true)))]⟩
def b_law_shown : Fn := ⟨1, 3, [(.ret (.mt false .join (.con (.str [10])) [(.lc false (.mt false .join (.con (.str [])) [(.lc false (.idx (.con (.str [48, 49, 50, 51, 52, 53, 54, 55, 56, 57, 97, 98, 99, 100, 101, 102, 103])) (.var 2)) (.name 2) (.var 1) [] [2])]) (.name 1) (.var 0) [] [1])]))]⟩
def b_law_read : Fn := ⟨1, 6, [(.asg (.name 1) (.mt false .split (.var 0) [(.con (.str [10]))])), (.asg (.name 2) (.list true [])), (.for (.name 3) (.range [(.len (.var 1))]) [(.asg (.name 4) (.lc false (.mt false .find (.con (.str [48, 49, 50, 51, 52, 53, 54, 55, 56, 57, 97, 98, 99, 100, 101, 102, 103])) [(.var 5)]) (.name 5) (.idx (.var 1) (.var 3)) [] [5])), (.ite (.or (.cmp .Eq (.var 4) (.list false [])) (.or (.cmp .In (.un .USub (.con (.int 1))) (.var 4)) (.cmp .NotEq (.len (.var 4)) (.len (.idx (.var 1) (.con (.int 0))))))) [(.ret (.tup [(.con (.str [114, 97, 105, 115, 101, 100])), (.var 3)]))] []), (.expr (.app (.var 2) (.var 4)))]), (.ite (.or (.cmp .Gt (.len (.var 1)) (.con (.int 300))) (.cmp .Gt (.len (.idx (.var 1) (.con (.int 0)))) (.con (.int 300)))) [(.ret (.tup [(.con (.str [114, 97, 105, 115, 101, 100])), (.un .USub (.con (.int 1)))]))] []), (.ret (.var 2))]⟩
def b_law_packed_row : Fn := ⟨1, 4, [(.asg (.name 1) (.list true [(.con (.int 0))])), (.for (.name 2) (.range [(.len (.var 0))]) [(.ite (.cmp .NotEq (.idx (.var 0) (.var 2)) (.bin false .Mod (.bin false .Sub (.len (.var 1)) (.con (.int 1))) (.con (.int 2)))) [(.expr (.app (.var 1) (.con (.int 0))))] []), (.asgIx (.var 1) (.un .USub (.con (.int 1))) (.bin false .Add (.idx (.var 1) (.un .USub (.con (.int 1)))) (.con (.int 1))))]), (.ret (.mt false .join (.con (.str [32])) [(.lc false (.bi false .str [(.var 3)]) (.name 3) (.var 1) [] [3])]))]⟩
def b_law_packed : Fn := ⟨1, 3, [(.asg (.name 1) (.list true [])), (.for (.name 2) (.range [(.len (.var 0))]) [(.ite (.and (.cmp .Gt (.var 2) (.con (.int 0))) (.cmp .Eq (.idx (.var 0) (.var 2)) (.idx (.var 0) (.bin false .Sub (.var 2) (.con (.int 1)))))) [(.expr (.app (.var 1) (.con (.str [61]))))] [(.expr (.app (.var 1) (.call false "_law_packed_row" [(.idx (.var 0) (.var 2))])))])]), (.ret (.mt false .join (.con (.str [10])) [(.var 1)]))]⟩
def b_law_unpacked : Fn := ⟨1, 6, [(.asg (.name 1) (.list false [])), (.asg (.name 2) (.mt false .split (.var 0) [(.con (.str [32]))])), (.for (.name 3) (.range [(.len (.var 2))]) [(.asg (.name 4) (.idx (.var 2) (.var 3))), (.ite (.or (.cmp .Eq (.var 4) (.con (.str []))) (.or (.cmp .Gt (.len (.var 4)) (.con (.int 3))) (.or (.cmp .NotEq (.lc false (.var 5) (.name 5) (.var 4) [(.cmp .NotIn (.var 5) (.con (.str [48, 49, 50, 51, 52, 53, 54, 55, 56, 57])))] [5]) (.list false [])) (.and (.cmp .Eq (.idx (.var 4) (.con (.int 0))) (.con (.str [48]))) (.cmp .NotEq (.var 4) (.con (.str [48]))))))) [(.ret (.list false []))] []), (.ite (.and (.cmp .Eq (.bi false .int [(.var 4)]) (.con (.int 0))) (.cmp .Gt (.var 3) (.con (.int 0)))) [(.ret (.list false []))] []), (.asg (.name 1) (.bin false .Add (.var 1) (.bin false .Mult (.list false [(.bin false .Mod (.var 3) (.con (.int 2)))]) (.bi false .int [(.var 4)]))))]), (.ret (.var 1))]⟩
def b_law_read_packed : Fn := ⟨1, 5, [(.asg (.name 1) (.mt false .split (.var 0) [(.con (.str [10]))])), (.asg (.name 2) (.list true [])), (.for (.name 3) (.range [(.len (.var 1))]) [(.ite (.and (.cmp .Eq (.idx (.var 1) (.var 3)) (.con (.str [61]))) (.cmp .Gt (.var 3) (.con (.int 0)))) [(.expr (.app (.var 2) (.bi false .list [(.idx (.var 2) (.un .USub (.con (.int 1))))])))] [(.asg (.name 4) (.call false "_law_unpacked" [(.idx (.var 1) (.var 3))])), (.ite (.or (.cmp .Eq (.var 4) (.list false [])) (.or (.cmp .Gt (.len (.var 4)) (.con (.int 300))) (.and (.cmp .Gt (.var 3) (.con (.int 0))) (.or (.cmp .NotEq (.len (.var 4)) (.len (.idx (.var 2) (.con (.int 0))))) (.cmp .Eq (.var 4) (.idx (.var 2) (.un .USub (.con (.int 1))))))))) [(.ret (.tup [(.con (.str [114, 97, 105, 115, 101, 100])), (.var 3)]))] []), (.expr (.app (.var 2) (.var 4)))])]), (.ite (.cmp .Gt (.len (.var 1)) (.con (.int 300))) [(.ret (.tup [(.con (.str [114, 97, 105, 115, 101, 100])), (.un .USub (.con (.int 1)))]))] []), (.ret (.var 2))]⟩
def b_law_told : Fn := ⟨2, 3, [(.tryAs [(.ite (.cmp .Eq (.var 0) (.con (.int 0))) [(.ret (.call false "read_picture" [(.var 1)]))] []), (.ite (.cmp .Eq (.var 0) (.con (.int 1))) [(.ret (.call false "read_packed" [(.var 1)]))] []), (.ret (.call false "read_square_text" [(.var 1)]))] "BadLine" 2 (.tup [(.con (.str [114, 97, 105, 115, 101, 100])), (.fld "line")]))]⟩
def b_law_near : Fn := ⟨3, 11, [(.asg (.name 3) (.mt false .split (.var 0) [(.con (.str [10]))])), (.asg (.name 4) (.bin false .Mod (.idx (.var 1) (.con (.int 0))) (.len (.var 3)))), (.asg (.name 5) (.idx (.var 3) (.var 4))), (.asg (.name 6) (.list true [(.var 0), (.con (.str [])), (.con (.str [10])), (.bin false .Add (.var 0) (.con (.str [10]))), (.bin false .Add (.con (.str [10])) (.var 0)), (.con (.str [61])), (.bin false .Add (.con (.str [61, 10])) (.var 0)), (.bin false .Add (.var 0) (.con (.str [10, 61]))), (.bin false .Add (.bin false .Add (.var 0) (.con (.str [10]))) (.idx (.var 3) (.un .USub (.con (.int 1))))), (.repl (.var 0) [10] [])])), (.for (.name 7) (.range [(.len (.var 2))]) [(.asg (.name 8) (.idx (.var 2) (.var 7))), (.asg (.name 9) (.bin false .Mod (.idx (.var 1) (.bin false .Add (.con (.int 1)) (.bin false .Mod (.var 7) (.con (.int 6))))) (.bin false .Add (.len (.var 5)) (.con (.int 1))))), (.expr (.app (.var 6) (.mt false .join (.con (.str [10])) [(.bin false .Add (.bin false .Add (.slice false false true (.var 3) .nil (.var 4)) (.list false [(.bin false .Add (.bin false .Add (.slice false false true (.var 5) .nil (.var 9)) (.var 8)) (.slice false true false (.var 5) (.var 9) .nil))])) (.slice false true false (.var 3) (.bin false .Add (.var 4) (.con (.int 1))) .nil))]))), (.expr (.app (.var 6) (.mt false .join (.con (.str [10])) [(.bin false .Add (.bin false .Add (.slice false false true (.var 3) .nil (.var 4)) (.list false [(.bin false .Add (.bin false .Add (.slice false false true (.var 5) .nil (.var 9)) (.var 8)) (.slice false true false (.var 5) (.bin false .Add (.var 9) (.con (.int 1))) .nil))])) (.slice false true false (.var 3) (.bin false .Add (.var 4) (.con (.int 1))) .nil))])))]), (.for (.name 10) (.list false [(.con (.str [])), (.con (.str [61])), (.bin false .Add (.var 5) (.con (.str [32, 48]))), (.bin false .Add (.con (.str [48, 32])) (.var 5)), (.bin false .Add (.var 5) (.con (.str [32, 49]))), (.slice false false true (.var 5) .nil (.un .USub (.con (.int 1)))), (.con (.str [48])), (.bin false .Add (.var 5) (.var 5))]) [(.expr (.app (.var 6) (.mt false .join (.con (.str [10])) [(.bin false .Add (.bin false .Add (.slice false false true (.var 3) .nil (.var 4)) (.list false [(.var 10)])) (.slice false true false (.var 3) (.bin false .Add (.var 4) (.con (.int 1))) .nil))])))]), (.expr (.app (.var 6) (.mt false .join (.con (.str [10])) [(.bin false .Add (.slice false false true (.var 3) .nil (.var 4)) (.slice false true false (.var 3) (.bin false .Add (.var 4) (.con (.int 1))) .nil))]))), (.expr (.app (.var 6) (.mt false .join (.con (.str [10])) [(.bin false .Add (.slice false false true (.var 3) .nil (.bin false .Add (.var 4) (.con (.int 1)))) (.slice false true false (.var 3) (.var 4) .nil))]))), (.ret (.var 6))]⟩
def b_law_marks : Fn := ⟨2, 4, [(.ret (.lc false (.mt false .join (.con (.str [])) [(.lc false (.idx (.con (.str [46, 35])) (.bin false .BitAnd (.bin false .RShift (.idx (.var 1) (.var 2)) (.bin false .Mod (.var 3) (.con (.int 9)))) (.con (.int 1)))) (.name 3) (.range [(.var 0)]) [] [3])]) (.name 2) (.range [(.var 0)]) [] [2]))]⟩
def b_law_squares : Fn := ⟨2, 9, [(.asg (.name 2) (.call false "_law_marks" [(.bin false .Add (.con (.int 21)) (.bin false .Mult (.con (.int 4)) (.bin false .Mod (.idx (.var 1) (.con (.int 0))) (.con (.int 3))))), (.call false "_law_numbers" [(.var 0), (.con (.int 2)), (.con (.int 30))])])), (.asg (.name 3) (.mt false .join (.con (.str [47])) [(.var 2)])), (.asg (.name 4) (.mt false .join (.con (.str [10])) [(.var 2)])), (.asg (.name 5) (.bi false .list [(.var 2)])), (.ite (.or (.not (.call false "_law_same" [(.call false "show_square" [(.var 5)]), (.var 4)])) (.or (.not (.call false "_law_same" [(.call false "square_line" [(.var 5)]), (.var 3)])) (.cmp .NotEq (.var 5) (.var 2)))) [(.ret (.con (.bool false)))] []), (.asg (.name 6) (.listw [(.call true "read_square_text" [(.var 4)]), (.call true "read_square_line" [(.var 3)])])), (.ite (.not (.call false "_law_same" [(.var 6), (.list false [(.var 2), (.var 2)])])) [(.ret (.con (.bool false)))] []), (.asgIx (.idx (.var 6) (.con (.int 0))) (.con (.int 0)) (.con (.str []))), (.expr (.app (.idx (.var 6) (.con (.int 1))) (.con (.str [])))), (.ite (.not (.call false "_law_same" [(.list false [(.call false "read_square_text" [(.var 4)]), (.call false "read_square_line" [(.var 3)])]), (.list false [(.var 2), (.var 2)])])) [(.ret (.con (.bool false)))] []), (.asg (.name 7) (.bin false .Mod (.idx (.var 1) (.con (.int 1))) (.len (.var 3)))), (.for (.name 8) (.list false [(.con (.str [])), (.bin false .Add (.var 3) (.con (.str [47]))), (.bin false .Add (.con (.str [47])) (.var 3)), (.bin false .Add (.slice false false true (.var 3) .nil (.var 7)) (.slice false true false (.var 3) (.bin false .Add (.var 7) (.con (.int 1))) .nil)), (.bin false .Add (.bin false .Add (.slice false false true (.var 3) .nil (.var 7)) (.con (.str [120]))) (.slice false true false (.var 3) (.bin false .Add (.var 7) (.con (.int 1))) .nil)), (.bin false .Add (.bin false .Add (.var 3) (.con (.str [47]))) (.idx (.var 2) (.con (.int 0)))), (.var 4), (.con (.str [35, 47, 35])), (.slice false true false (.var 3) (.con (.int 1)) .nil)]) [(.ite (.and (.cmp .NotEq (.var 8) (.var 3)) (.and (.or (.isN true (.call false "read_square_line" [(.var 8)])) (.not (.call false "_law_same" [(.call false "_law_told" [(.con (.int 2)), (.repl (.var 8) [47] [10])]), (.tup [(.con (.str [114, 97, 105, 115, 101, 100])), (.un .USub (.con (.int 1)))])]))) (.cmp .NotEq (.var 8) (.var 4)))) [(.ret (.con (.bool false)))] [])]), (.ret (.and (.isN false (.call false "read_square_line" [(.var 4)])) (.call false "_law_same" [(.call false "_law_told" [(.con (.int 2)), (.var 3)]), (.tup [(.con (.str [114, 97, 105, 115, 101, 100])), (.un .USub (.con (.int 1)))])])))]⟩
def b_law : Fn := ⟨1, 16, [(.asg (.name 1) (.call false "_law_numbers" [(.var 0), (.con (.int 0)), (.con (.int 60))])), (.asg (.name 2) (.call false "_law_numbers" [(.var 0), (.con (.int 1)), (.con (.int 60))])), (.asg (.tup [(.name 3), (.name 4)]) (.tup [(.bin false .Add (.con (.int 1)) (.bin false .Mod (.idx (.var 1) (.con (.int 0))) (.con (.int 20)))), (.bin false .Add (.con (.int 1)) (.bin false .Mod (.idx (.var 1) (.con (.int 1))) (.con (.int 20))))])), (.ite (.cmp .Eq (.bin false .Mod (.idx (.var 1) (.con (.int 2))) (.con (.int 8))) (.con (.int 0))) [(.asg (.tup [(.name 3), (.name 4)]) (.idx (.list false [(.tup [(.con (.int 300)), (.bin false .Add (.con (.int 1)) (.bin false .Mod (.idx (.var 1) (.con (.int 0))) (.con (.int 2))))]), (.tup [(.bin false .Add (.con (.int 1)) (.bin false .Mod (.idx (.var 1) (.con (.int 0))) (.con (.int 2)))), (.con (.int 300))])]) (.bin false .Mod (.idx (.var 1) (.con (.int 3))) (.con (.int 2)))))] []), (.asg (.name 5) (.lc false (.lc false (.bin false .Mod (.bin false .Add (.idx (.var 2) (.bin false .Mod (.bin false .Add (.var 15) (.bin false .Mult (.con (.int 7)) (.var 7))) (.con (.int 60)))) (.bin false .Mult (.var 15) (.idx (.var 2) (.bin false .Mod (.var 7) (.con (.int 60)))))) (.con (.int 17))) (.name 15) (.range [(.var 3)]) [] [15]) (.name 7) (.range [(.var 4)]) [] [7])), (.asg (.name 6) (.list true [])), (.for (.name 7) (.range [(.var 4)]) [(.asg (.name 8) (.lc false (.bi false .int [(.cmp .Eq (.bin false .Mod (.bin false .Add (.idx (.var 2) (.bin false .Mod (.bin false .Add (.bin false .FloorDiv (.var 15) (.bin false .Add (.con (.int 1)) (.bin false .Mod (.idx (.var 1) (.con (.int 4))) (.con (.int 6))))) (.bin false .Mult (.con (.int 11)) (.var 7))) (.con (.int 60)))) (.var 7)) (.con (.int 3))) (.con (.int 0)))]) (.name 15) (.range [(.var 3)]) [] [15])), (.ite (.and (.cmp .NotEq (.var 6) (.list false [])) (.cmp .Eq (.bin false .Mod (.bin false .FloorDiv (.idx (.var 2) (.bin false .Mod (.var 7) (.con (.int 60)))) (.con (.int 9))) (.con (.int 3))) (.con (.int 0)))) [(.asg (.name 8) (.bi false .list [(.idx (.var 6) (.un .USub (.con (.int 1))))]))] []), (.expr (.app (.var 6) (.var 8)))]), (.asg (.name 9) (.list false [(.lc false (.bi false .list [(.var 8)]) (.name 8) (.var 5) [] [8]), (.lc false (.bi false .list [(.var 8)]) (.name 8) (.var 6) [] [8])])), (.asg (.name 10) (.list false [(.call false "_law_shown" [(.var 5)]), (.call false "_law_packed" [(.var 6)])])), (.ite (.or (.not (.call false "_law_same" [(.list false [(.call false "show_picture" [(.idx (.var 9) (.con (.int 0)))]), (.call false "show_packed" [(.idx (.var 9) (.con (.int 1)))])]), (.var 10)])) (.cmp .NotEq (.var 9) (.list false [(.var 5), (.var 6)]))) [(.ret (.con (.bool false)))] []), (.asg (.name 11) (.listw [(.call true "read_picture" [(.idx (.var 10) (.con (.int 0)))]), (.call true "read_packed" [(.idx (.var 10) (.con (.int 1)))])])), (.ite (.not (.call false "_law_same" [(.var 11), (.list false [(.var 5), (.var 6)])])) [(.ret (.con (.bool false)))] []), (.for (.name 12) (.range [(.con (.int 2))]) [(.expr (.app (.idx (.idx (.var 11) (.var 12)) (.con (.int 0))) (.con (.int 1)))), (.expr (.app (.idx (.var 11) (.var 12)) (.list false [])))]), (.ite (.not (.call false "_law_same" [(.list false [(.call false "read_picture" [(.idx (.var 10) (.con (.int 0)))]), (.call false "read_packed" [(.idx (.var 10) (.con (.int 1)))])]), (.list false [(.var 5), (.var 6)])])) [(.ret (.con (.bool false)))] []), (.ite (.cmp .Lt (.var 3) (.con (.int 300))) [(.for (.name 13) (.call false "_law_near" [(.idx (.var 10) (.con (.int 0))), (.slice false true false (.var 1) (.con (.int 5)) .nil), (.list false [(.con (.str [103])), (.con (.str [104])), (.con (.str [71])), (.con (.str [32])), (.con (.str [45])), (.con (.str [48])), (.con (.str [61]))])]) [(.ite (.not (.call false "_law_same" [(.call false "_law_told" [(.con (.int 0)), (.var 13)]), (.call false "_law_read" [(.var 13)])])) [(.ret (.con (.bool false)))] [])]), (.for (.name 13) (.call false "_law_near" [(.idx (.var 10) (.con (.int 1))), (.slice false true false (.var 1) (.con (.int 12)) .nil), (.list false [(.con (.str [48])), (.con (.str [32])), (.con (.str [32, 48, 32])), (.con (.str [49])), (.con (.str [49, 32, 49])), (.con (.str [45])), (.con (.str [61])), (.con (.str [97]))])]) [(.ite (.not (.call false "_law_same" [(.call false "_law_told" [(.con (.int 1)), (.var 13)]), (.call false "_law_read_packed" [(.var 13)])])) [(.ret (.con (.bool false)))] [])])] []), (.ite (.cmp .Eq (.bin false .Mod (.idx (.var 1) (.con (.int 2))) (.con (.int 8))) (.con (.int 1))) [(.asg (.name 14) (.bin false .Mult (.list false [(.bin false .Mult (.con (.str [48])) (.bin false .Add (.con (.int 1)) (.bin false .Mod (.idx (.var 1) (.con (.int 19))) (.con (.int 3)))))]) (.con (.int 301)))), (.ite (.or (.not (.call false "_law_same" [(.call false "_law_told" [(.con (.int 0)), (.mt false .join (.con (.str [10])) [(.var 14)])]), (.tup [(.con (.str [114, 97, 105, 115, 101, 100])), (.un .USub (.con (.int 1)))])])) (.not (.call false "_law_same" [(.call false "_law_told" [(.con (.int 0)), (.bin false .Mult (.con (.str [48])) (.con (.int 301)))]), (.tup [(.con (.str [114, 97, 105, 115, 101, 100])), (.un .USub (.con (.int 1)))])]))) [(.ret (.con (.bool false)))] []), (.ite (.or (.not (.call false "_law_same" [(.call false "_law_told" [(.con (.int 1)), (.con (.str [50, 48, 48, 32, 49, 48, 49]))]), (.tup [(.con (.str [114, 97, 105, 115, 101, 100])), (.con (.int 0))])])) (.not (.call false "_law_same" [(.call false "_law_told" [(.con (.int 1)), (.con (.str [55, 10, 55, 32, 51, 48, 48]))]), (.tup [(.con (.str [114, 97, 105, 115, 101, 100])), (.con (.int 1))])]))) [(.ret (.con (.bool false)))] []), (.ite (.or (.not (.call false "_law_same" [(.call false "_law_told" [(.con (.int 1)), (.mt false .join (.con (.str [10])) [(.bin false .Add (.list false [(.con (.str [49]))]) (.bin false .Mult (.list false [(.con (.str [61]))]) (.con (.int 300))))])]), (.tup [(.con (.str [114, 97, 105, 115, 101, 100])), (.un .USub (.con (.int 1)))])])) (.cmp .NotEq (.len (.call false "read_packed" [(.mt false .join (.con (.str [10])) [(.bin false .Add (.list false [(.con (.str [49]))]) (.bin false .Mult (.list false [(.con (.str [61]))]) (.con (.int 299))))])])) (.con (.int 300)))) [(.ret (.con (.bool false)))] [])] []), (.ret (.call false "_law_squares" [(.var 0), (.slice false true false (.var 1) (.con (.int 20)) .nil)]))]⟩
def fnTab : List (Str × Fn) := [("read_whole", b_read_whole), ("lines_of", b_lines_of), ("is_whole", b_is_whole), ("size_of_side", b_size_of_side), ("is_square", b_is_square), ("is_picture", b_is_picture), ("show_picture", b_show_picture), ("read_row", b_read_row), ("read_picture", b_read_picture), ("packed_row", b_packed_row), ("unpacked_row", b_unpacked_row), ("show_packed", b_show_packed), ("read_packed", b_read_packed), ("show_square", b_show_square), ("read_square_text", b_read_square_text), ("square_line", b_square_line), ("read_square_line", b_read_square_line), ("_law_numbers", b_law_numbers), ("_law_same", b_law_same), ("_law_shown", b_law_shown), ("_law_read", b_law_read), ("_law_packed_row", b_law_packed_row), ("_law_packed", b_law_packed), ("_law_unpacked", b_law_unpacked), ("_law_read_packed", b_law_read_packed), ("_law_told", b_law_told), ("_law_near", b_law_near), ("_law_marks", b_law_marks), ("_law_squares", b_law_squares), ("law", b_law)]
def im (x : Str) : Bool := ([] : List Str).contains x
def d_read_whole : DS := ⟨"read_whole", topS 6, ["text", "plain", "sign"], ["text"], [], 0⟩
def d_lines_of : DS := ⟨"lines_of", topS 7, ["text"], ["text"], [], 1⟩
def d_is_whole : DS := ⟨"is_whole", topS 9, ["value"], ["value"], [], 0⟩
def d_size_of_side : DS := ⟨"size_of_side", topS 13, ["side"], ["side"], [], 0⟩
def d_is_square : DS := ⟨"is_square", topS 17, ["value", "row", "sign"], ["value"], [], 0⟩
def d_is_picture : DS := ⟨"is_picture", topS 20, ["value", "most", "row", "n"], ["value", "most"], [], 0⟩
def d_show_picture : DS := ⟨"show_picture", topS 24, ["picture", "row", "n"], ["picture"], [], 0⟩
def d_read_row : DS := ⟨"read_row", topS 25, ["line", "sign"], ["line"], [], 1⟩
def d_read_picture : DS := ⟨"read_picture", topS 26, ["text", "found", "index", "line", "row"], ["text"], [("found", 2), ("row", 1)], 2⟩
def d_packed_row : DS := ⟨"packed_row", topS 27, ["row", "found", "now", "told", "length"], ["row"], [("found", 1)], 0⟩
def d_unpacked_row : DS := ⟨"unpacked_row", topS 28, ["line", "told", "found", "k", "length", "part"], ["line"], [("found", 1)], 1⟩
def d_show_packed : DS := ⟨"show_packed", topS 29, ["picture", "found", "j", "row"], ["picture"], [("found", 1)], 0⟩
def d_read_packed : DS := ⟨"read_packed", topS 30, ["text", "found", "index", "line", "row"], ["text"], [("found", 2), ("row", 1)], 2⟩
def d_show_square : DS := ⟨"show_square", topS 31, ["square"], ["square"], [], 0⟩
def d_read_square_text : DS := ⟨"read_square_text", topS 32, ["text", "found"], ["text"], [("found", 1)], 1⟩
def d_square_line : DS := ⟨"square_line", topS 33, ["square"], ["square"], [], 0⟩
def d_read_square_line : DS := ⟨"read_square_line", topS 34, ["line", "found"], ["line"], [("found", 1)], 1⟩
def d_law_numbers : DS := ⟨"_law_numbers", topS 36, ["script", "at", "count", "cell", "numbers", "k", "mixed"], ["script", "at", "count"], [("numbers", 1)], 0⟩
def d_law_same : DS := ⟨"_law_same", topS 37, ["value", "due", "k"], ["value", "due"], [], 0⟩
def d_law_shown : DS := ⟨"_law_shown", topS 38, ["rows", "row", "point"], ["rows"], [], 0⟩
def d_law_read : DS := ⟨"_law_read", topS 39, ["text", "lines", "rows", "k", "row", "sign"], ["text"], [("rows", 1)], 0⟩
def d_law_packed_row : DS := ⟨"_law_packed_row", topS 40, ["row", "runs", "at", "run"], ["row"], [("runs", 1)], 0⟩
def d_law_packed : DS := ⟨"_law_packed", topS 41, ["rows", "lines", "k"], ["rows"], [("lines", 1)], 0⟩
def d_law_unpacked : DS := ⟨"_law_unpacked", topS 42, ["line", "row", "runs", "k", "run", "sign"], ["line"], [], 0⟩
def d_law_read_packed : DS := ⟨"_law_read_packed", topS 43, ["text", "lines", "rows", "k", "row"], ["text"], [("rows", 1)], 0⟩
def d_law_told : DS := ⟨"_law_told", topS 44, ["what", "text", "e"], ["what", "text"], [], 0⟩
def d_law_near : DS := ⟨"_law_near", topS 45, ["text", "numbers", "signs", "lines", "at", "line", "cases", "k", "sign", "i", "one"], ["text", "numbers", "signs"], [("cases", 1)], 0⟩
def d_law_marks : DS := ⟨"_law_marks", topS 46, ["side", "numbers", "i", "j"], ["side", "numbers"], [], 0⟩
def d_law_squares : DS := ⟨"_law_squares", topS 47, ["script", "numbers", "square", "line", "text", "handed", "told", "at", "one"], ["script", "numbers"], [("told", 2)], 0⟩
def d_law : DS := ⟨"law", topS 48, ["script", "numbers", "drawn", "wide", "high", "picture", "plain", "j", "row", "handed", "notes", "told", "k", "text", "rows", "i"], ["script"], [("plain", 1), ("told", 3)], 0⟩
def exs : List (Str × Str) := [("BadLine", "line")]
def defs : List DS := [d_read_whole, d_lines_of, d_is_whole, d_size_of_side, d_is_square, d_is_picture, d_show_picture, d_read_row, d_read_picture, d_packed_row, d_unpacked_row, d_show_packed, d_read_packed, d_show_square, d_read_square_text, d_square_line, d_read_square_line, d_law_numbers, d_law_same, d_law_shown, d_law_read, d_law_packed_row, d_law_packed, d_law_unpacked, d_law_read_packed, d_law_told, d_law_near, d_law_marks, d_law_squares, d_law]
abbrev Ga : Prog := progOf (fun x => fnTab.lookup x) gvs
theorem ok_read_whole : d_read_whole.Ok Ga (geOf defs gvs im exs false) := ⟨⟨by kernel_rfl, by kernel_rfl, by kernel_rfl, by decide +kernel, by kernel_rfl, by decide +kernel, by decide +kernel⟩, fun _ _ _ _ _ _ us hl => match us, hl with | [_], _ => rfl, by kernel_rfl⟩
theorem ok_lines_of : d_lines_of.Ok Ga (geOf defs gvs im exs false) := ⟨⟨by kernel_rfl, by kernel_rfl, by kernel_rfl, by decide +kernel, by kernel_rfl, by decide +kernel, by decide +kernel⟩, fun _ _ _ _ _ _ us hl => match us, hl with | [_], _ => rfl, by kernel_rfl⟩
theorem ok_is_whole : d_is_whole.Ok Ga (geOf defs gvs im exs false) := ⟨⟨by kernel_rfl, by kernel_rfl, by kernel_rfl, by decide +kernel, by kernel_rfl, by decide +kernel, by decide +kernel⟩, fun _ _ _ _ _ _ us hl => match us, hl with | [_], _ => rfl, by kernel_rfl⟩
theorem ok_size_of_side : d_size_of_side.Ok Ga (geOf defs gvs im exs false) := ⟨⟨by kernel_rfl, by kernel_rfl, by kernel_rfl, by decide +kernel, by kernel_rfl, by decide +kernel, by decide +kernel⟩, fun _ _ _ _ _ _ us hl => match us, hl with | [_], _ => rfl, by kernel_rfl⟩
theorem ok_is_square : d_is_square.Ok Ga (geOf defs gvs im exs false) := ⟨⟨by kernel_rfl, by kernel_rfl, by kernel_rfl, by decide +kernel, by kernel_rfl, by decide +kernel, by decide +kernel⟩, fun _ _ _ _ _ _ us hl => match us, hl with | [_], _ => rfl, by kernel_rfl⟩
theorem ok_is_picture : d_is_picture.Ok Ga (geOf defs gvs im exs false) := ⟨⟨by kernel_rfl, by kernel_rfl, by kernel_rfl, by decide +kernel, by kernel_rfl, by decide +kernel, by decide +kernel⟩, fun _ _ _ _ _ _ us hl => match us, hl with | [_, _], _ => rfl, by kernel_rfl⟩
theorem ok_show_picture : d_show_picture.Ok Ga (geOf defs gvs im exs false) := ⟨⟨by kernel_rfl, by kernel_rfl, by kernel_rfl, by decide +kernel, by kernel_rfl, by decide +kernel, by decide +kernel⟩, fun _ _ _ _ _ _ us hl => match us, hl with | [_], _ => rfl, by kernel_rfl⟩
theorem ok_read_row : d_read_row.Ok Ga (geOf defs gvs im exs false) := ⟨⟨by kernel_rfl, by kernel_rfl, by kernel_rfl, by decide +kernel, by kernel_rfl, by decide +kernel, by decide +kernel⟩, fun _ _ _ _ _ _ us hl => match us, hl with | [_], _ => rfl, by kernel_rfl⟩
theorem ok_read_picture : d_read_picture.Ok Ga (geOf defs gvs im exs false) := ⟨⟨by kernel_rfl, by kernel_rfl, by kernel_rfl, by decide +kernel, by kernel_rfl, by decide +kernel, by decide +kernel⟩, fun _ _ _ _ _ _ us hl => match us, hl with | [_], _ => rfl, by kernel_rfl⟩
theorem ok_packed_row : d_packed_row.Ok Ga (geOf defs gvs im exs false) := ⟨⟨by kernel_rfl, by kernel_rfl, by kernel_rfl, by decide +kernel, by kernel_rfl, by decide +kernel, by decide +kernel⟩, fun _ _ _ _ _ _ us hl => match us, hl with | [_], _ => rfl, by kernel_rfl⟩
theorem ok_unpacked_row : d_unpacked_row.Ok Ga (geOf defs gvs im exs false) := ⟨⟨by kernel_rfl, by kernel_rfl, by kernel_rfl, by decide +kernel, by kernel_rfl, by decide +kernel, by decide +kernel⟩, fun _ _ _ _ _ _ us hl => match us, hl with | [_], _ => rfl, by kernel_rfl⟩
theorem ok_show_packed : d_show_packed.Ok Ga (geOf defs gvs im exs false) := ⟨⟨by kernel_rfl, by kernel_rfl, by kernel_rfl, by decide +kernel, by kernel_rfl, by decide +kernel, by decide +kernel⟩, fun _ _ _ _ _ _ us hl => match us, hl with | [_], _ => rfl, by kernel_rfl⟩
theorem ok_read_packed : d_read_packed.Ok Ga (geOf defs gvs im exs false) := ⟨⟨by kernel_rfl, by kernel_rfl, by kernel_rfl, by decide +kernel, by kernel_rfl, by decide +kernel, by decide +kernel⟩, fun _ _ _ _ _ _ us hl => match us, hl with | [_], _ => rfl, by kernel_rfl⟩
theorem ok_show_square : d_show_square.Ok Ga (geOf defs gvs im exs false) := ⟨⟨by kernel_rfl, by kernel_rfl, by kernel_rfl, by decide +kernel, by kernel_rfl, by decide +kernel, by decide +kernel⟩, fun _ _ _ _ _ _ us hl => match us, hl with | [_], _ => rfl, by kernel_rfl⟩
theorem ok_read_square_text : d_read_square_text.Ok Ga (geOf defs gvs im exs false) := ⟨⟨by kernel_rfl, by kernel_rfl, by kernel_rfl, by decide +kernel, by kernel_rfl, by decide +kernel, by decide +kernel⟩, fun _ _ _ _ _ _ us hl => match us, hl with | [_], _ => rfl, by kernel_rfl⟩
theorem ok_square_line : d_square_line.Ok Ga (geOf defs gvs im exs false) := ⟨⟨by kernel_rfl, by kernel_rfl, by kernel_rfl, by decide +kernel, by kernel_rfl, by decide +kernel, by decide +kernel⟩, fun _ _ _ _ _ _ us hl => match us, hl with | [_], _ => rfl, by kernel_rfl⟩
theorem ok_read_square_line : d_read_square_line.Ok Ga (geOf defs gvs im exs false) := ⟨⟨by kernel_rfl, by kernel_rfl, by kernel_rfl, by decide +kernel, by kernel_rfl, by decide +kernel, by decide +kernel⟩, fun _ _ _ _ _ _ us hl => match us, hl with | [_], _ => rfl, by kernel_rfl⟩
theorem ok_law_numbers : d_law_numbers.Ok Ga (geOf defs gvs im exs false) := ⟨⟨by kernel_rfl, by kernel_rfl, by kernel_rfl, by decide +kernel, by kernel_rfl, by decide +kernel, by decide +kernel⟩, fun _ _ _ _ _ _ us hl => match us, hl with | [_, _, _], _ => rfl, by kernel_rfl⟩
theorem ok_law_same : d_law_same.Ok Ga (geOf defs gvs im exs false) := ⟨⟨by kernel_rfl, by kernel_rfl, by kernel_rfl, by decide +kernel, by kernel_rfl, by decide +kernel, by decide +kernel⟩, fun _ _ _ _ _ _ us hl => match us, hl with | [_, _], _ => rfl, by kernel_rfl⟩
theorem ok_law_shown : d_law_shown.Ok Ga (geOf defs gvs im exs false) := ⟨⟨by kernel_rfl, by kernel_rfl, by kernel_rfl, by decide +kernel, by kernel_rfl, by decide +kernel, by decide +kernel⟩, fun _ _ _ _ _ _ us hl => match us, hl with | [_], _ => rfl, by kernel_rfl⟩
theorem ok_law_read : d_law_read.Ok Ga (geOf defs gvs im exs false) := ⟨⟨by kernel_rfl, by kernel_rfl, by kernel_rfl, by decide +kernel, by kernel_rfl, by decide +kernel, by decide +kernel⟩, fun _ _ _ _ _ _ us hl => match us, hl with | [_], _ => rfl, by kernel_rfl⟩
theorem ok_law_packed_row : d_law_packed_row.Ok Ga (geOf defs gvs im exs false) := ⟨⟨by kernel_rfl, by kernel_rfl, by kernel_rfl, by decide +kernel, by kernel_rfl, by decide +kernel, by decide +kernel⟩, fun _ _ _ _ _ _ us hl => match us, hl with | [_], _ => rfl, by kernel_rfl⟩
theorem ok_law_packed : d_law_packed.Ok Ga (geOf defs gvs im exs false) := ⟨⟨by kernel_rfl, by kernel_rfl, by kernel_rfl, by decide +kernel, by kernel_rfl, by decide +kernel, by decide +kernel⟩, fun _ _ _ _ _ _ us hl => match us, hl with | [_], _ => rfl, by kernel_rfl⟩
theorem ok_law_unpacked : d_law_unpacked.Ok Ga (geOf defs gvs im exs false) := ⟨⟨by kernel_rfl, by kernel_rfl, by kernel_rfl, by decide +kernel, by kernel_rfl, by decide +kernel, by decide +kernel⟩, fun _ _ _ _ _ _ us hl => match us, hl with | [_], _ => rfl, by kernel_rfl⟩
theorem ok_law_read_packed : d_law_read_packed.Ok Ga (geOf defs gvs im exs false) := ⟨⟨by kernel_rfl, by kernel_rfl, by kernel_rfl, by decide +kernel, by kernel_rfl, by decide +kernel, by decide +kernel⟩, fun _ _ _ _ _ _ us hl => match us, hl with | [_], _ => rfl, by kernel_rfl⟩
theorem ok_law_told : d_law_told.Ok Ga (geOf defs gvs im exs false) := ⟨⟨by kernel_rfl, by kernel_rfl, by kernel_rfl, by decide +kernel, by kernel_rfl, by decide +kernel, by decide +kernel⟩, fun _ _ _ _ _ _ us hl => match us, hl with | [_, _], _ => rfl, by kernel_rfl⟩
theorem ok_law_near : d_law_near.Ok Ga (geOf defs gvs im exs false) := ⟨⟨by kernel_rfl, by kernel_rfl, by kernel_rfl, by decide +kernel, by kernel_rfl, by decide +kernel, by decide +kernel⟩, fun _ _ _ _ _ _ us hl => match us, hl with | [_, _, _], _ => rfl, by kernel_rfl⟩
theorem ok_law_marks : d_law_marks.Ok Ga (geOf defs gvs im exs false) := ⟨⟨by kernel_rfl, by kernel_rfl, by kernel_rfl, by decide +kernel, by kernel_rfl, by decide +kernel, by decide +kernel⟩, fun _ _ _ _ _ _ us hl => match us, hl with | [_, _], _ => rfl, by kernel_rfl⟩
theorem ok_law_squares : d_law_squares.Ok Ga (geOf defs gvs im exs false) := ⟨⟨by kernel_rfl, by kernel_rfl, by kernel_rfl, by decide +kernel, by kernel_rfl, by decide +kernel, by decide +kernel⟩, fun _ _ _ _ _ _ us hl => match us, hl with | [_, _], _ => rfl, by kernel_rfl⟩
theorem ok_law : d_law.Ok Ga (geOf defs gvs im exs false) := ⟨⟨by kernel_rfl, by kernel_rfl, by kernel_rfl, by decide +kernel, by kernel_rfl, by decide +kernel, by decide +kernel⟩, fun _ _ _ _ _ _ us hl => match us, hl with | [_], _ => rfl, by kernel_rfl⟩
theorem oks : ∀ d ∈ defs, d.Ok Ga (geOf defs gvs im exs false) := by
  intro d hd
  simp only [defs, List.mem_cons, List.not_mem_nil, or_false] at hd
  rcases hd with rfl | rfl | rfl | rfl | rfl | rfl | rfl | rfl | rfl | rfl | rfl | rfl | rfl | rfl | rfl | rfl | rfl | rfl | rfl | rfl | rfl | rfl | rfl | rfl | rfl | rfl | rfl | rfl | rfl | rfl
  · exact ok_read_whole
  · exact ok_lines_of
  · exact ok_is_whole
  · exact ok_size_of_side
  · exact ok_is_square
  · exact ok_is_picture
  · exact ok_show_picture
  · exact ok_read_row
  · exact ok_read_picture
  · exact ok_packed_row
  · exact ok_unpacked_row
  · exact ok_show_packed
  · exact ok_read_packed
  · exact ok_show_square
  · exact ok_read_square_text
  · exact ok_square_line
  · exact ok_read_square_line
  · exact ok_law_numbers
  · exact ok_law_same
  · exact ok_law_shown
  · exact ok_law_read
  · exact ok_law_packed_row
  · exact ok_law_packed
  · exact ok_law_unpacked
  · exact ok_law_read_packed
  · exact ok_law_told
  · exact ok_law_near
  · exact ok_law_marks
  · exact ok_law_squares
  · exact ok_law
end K78

namespace K78
open Cr PySem
abbrev T := List Nat
theorem g_FIG : Ga.gl "FIGURES" = some (.str [48, 49, 50, 51, 52, 53, 54, 55, 56, 57]) := by kernel_rfl
theorem g_MF : Ga.gl "MOST_FIGURES" = some (.int 40) := by kernel_rfl
theorem f_rw : Ga.fn "read_whole" = some b_read_whole := by kernel_rfl
def plain (t : T) : T := if t.take 1 = [45] then t.tail else t
def dig (c : Nat) : Bool := decide (c ∈ [48, 49, 50, 51, 52, 53, 54, 55, 56, 57])
def okL (t : T) : Bool := decide (1 ≤ (plain t).length) && decide ((plain t).length ≤ 40) && (plain t).all dig
def okW (t : T) : Bool := okL t && !(decide ((plain t).head? = some 48) && !decide (t = [48]))
def valW (t : T) : D := if okW t then .int ((intText? ⟨t.toArray⟩).getD 0) else .non
theorem plain_len (t : T) : (plain t).length ≤ t.length := by
  unfold plain
  split
  · simp
  · simp
theorem in_dig (c : Nat) : cmpD .In (.str [c]) (.str [48, 49, 50, 51, 52, 53, 54, 55, 56, 57]) = some (dig c) := rfl
theorem notin_dig (c : Nat) : cmpD .NotIn (.str [c]) (.str [48, 49, 50, 51, 52, 53, 54, 55, 56, 57]) = some (!dig c) := rfl
theorem dig_iff {c : Nat} : dig c = true ↔ 48 ≤ c ∧ c ≤ 57 := by
  unfold dig
  simp
  omega
theorem SX_len (a : T) : (⟨a.toArray⟩ : Str).length = a.length := S_len a
theorem int_of_ok {t : T} (h : okL t = true) : ∃ i, intText? ⟨t.toArray⟩ = some i := by
  unfold okL at h
  simp only [Bool.and_eq_true, decide_eq_true_eq] at h
  obtain ⟨⟨h1, h2⟩, h3⟩ := h
  have hd : NumText.AllDigits (plain t) := fun c hc => dig_iff.mp (List.all_eq_true.mp h3 c hc)
  have hne : plain t ≠ [] := by intro e; rw [e] at h1; simp at h1
  unfold plain at h1 h2 h3 hd hne
  by_cases ht : t.take 1 = [45]
  · rw [if_pos ht] at h1 h2 hd hne
    match t, ht with
    | c :: r, ht =>
      have e : c = 45 := by simpa using ht
      subst e
      exact ⟨_, intText_neg (x := ⟨(45 :: r).toArray⟩) (cs := r) rfl hd hne (by rw [SX_len]; simp at h2 ⊢; omega)⟩
  · rw [if_neg ht] at h1 h2 hd hne
    exact ⟨_, intText_digits (x := ⟨t.toArray⟩) hd hne (by rw [SX_len]; omega)⟩
theorem read_whole_run (n : Nat) (t : T) (h : t.length ≤ 100000) (s : Store) : run Ga (n + 1) "read_whole" [.d (.str t)] s = .ok (.d (valW t)) s := by
  have h1 : fits t.length = true := fits_of (by omega)
  have h2 : fits (plain t).length = true := fits_of (by have := plain_len t; omega)
  rw [run_fn f_rw rfl]
  simp [b_read_whole, slice_strE h1, g_FIG, g_MF]
  rw [show (if List.take 1 t = [45] then List.tail t else t) = plain t from rfl]
  simp [walk_str h2, len_str h2]
  rw [lc_str (fun c => some (.bool (dig c))) (fun c _ => by simp [lcBody_eq, dig]) (by have := plain_len t; omega)]
  have fm : List.filterMap (fun c => some (D.bool (dig c))) (plain t) = (plain t).map fun c => .bool (dig c) := by simp
  rw [fm]
  simp only [pure_bindM, all_bools, lift_some, truth_bool]
  by_cases a1 : 1 ≤ (plain t).length
  · by_cases a2 : (plain t).length ≤ 40
    · obtain ⟨c, r, e⟩ : ∃ c r, plain t = c :: r := by
        cases e : plain t with
        | nil => rw [e] at a1; simp at a1
        | cons c r => exact ⟨c, r, rfl⟩
      have b1 : (1 : Int) ≤ ((plain t).length : Int) := by omega
      have b2 : ¬ (40 : Int) < ((plain t).length : Int) := by omega
      by_cases a3 : (plain t).all dig = true
      · have ok : okL t = true := by simp only [okL, a1, a2, a3, decide_true, Bool.and_self]
        obtain ⟨i, hi⟩ := int_of_ok ok
        have il : t.length ≤ 640 := by
          have : t.length ≤ (plain t).length + 1 := by
            unfold plain
            split <;> simp <;> omega
          omega
        have hb : biD .int [.str t] = some (.int i) := by simp [biD, il, hi]
        rw [if_neg (by omega), a3]
        have hx : idxD (.str (c :: r)) (.int 0) = some (.str [c]) := idx_str0 (by rw [← e]; exact h2) rfl
        simp [hx, hb, valW, okW, ok, hi, e]
        by_cases q1 : c = 48
        · by_cases q2 : t = [48]
          · simp [q1, q2]
          · simp [q1, q2]
        · simp [q1]
      · rw [if_neg (by omega), Bool.eq_false_iff.mpr a3]
        have ok : okL t = false := by simp [okL, a3]
        simp [valW, okW, ok]
    · have b1 : (1 : Int) ≤ ((plain t).length : Int) := by omega
      have b2 : (40 : Int) < ((plain t).length : Int) := by omega
      rw [if_pos (by omega)]
      have ok : okL t = false := by simp [okL, a2]
      simp [valW, okW, ok]
  · have b1 : ¬ (1 : Int) ≤ ((plain t).length : Int) := by omega
    rw [if_pos (by omega)]
    have ok : okL t = false := by simp [okL, a1]
    simp [valW, okW, ok]

end K78

namespace K78
open Cr PySem
theorem f_lnb : Ga.fn "_law_numbers" = some b_law_numbers := by kernel_rfl
def lnbBody : List S := match b_law_numbers.body with
  | [_, _, _, _, .for _ _ b, _] => b
  | _ => []
abbrev nD (v : Nat) : D := .int (v : Int)
theorem small_m {i : Int} (h : 0 ≤ i) (h2 : i < 4294967296) : small64 i = true := decide_eq_true (by omega)
theorem mulL {i j : Int} (h : small64 i = true) : binD .Mult (.int i) (.int j) = some (.int (i * j)) := mul_int' (by simp [mulOk, h])
theorem mulR {i j : Int} (h : small64 j = true) : binD .Mult (.int i) (.int j) = some (.int (i * j)) := mul_int' (by simp [mulOk, h])
theorem pow18 : binD .Pow (.int 10) (.int 18) = some (.int 1000000000000000000) := by rfl
theorem lnb_step (n : Nat) (sc cn : W) (at_ : Int) (k : Nat) (cell : Int) (hc : 0 ≤ cell) (x y : Option W) (acc : List Nat) (hl : acc.length < 100000) (hk : k < 100000) (ha : small64 at_ = true) :
    ∃ cell' y' v, 0 ≤ cell' ∧ v ≤ 1008 ∧ forBody (.name 5) (evSs (run Ga n) Ga.gl lnbBody) (.int (k : Int)) [some sc, some (.d (.int at_)), some cn, some (.d (.int cell)), some (.ref 0), x, y] [dl (acc.map nD)] =
      .ok .next [some sc, some (.d (.int at_)), some cn, some (.d (.int cell')), some (.ref 0), some (.d (.int (k : Int))), y'] [dl ((acc ++ [v]).map nD)] := by
  have l1 : acc.length < 16777216 := by omega
  have nat_of : ∀ i : Int, 0 ≤ i → ((i.toNat : Nat) : Int) = i := fun i h => Int.toNat_of_nonneg h
  by_cases hb : 1000000000000000000 ≤ cell
  · have p := Int.emod_nonneg cell (b := 1009) (by decide)
    have p2 := Int.emod_lt_of_pos cell (b := 1009) (by decide)
    refine ⟨cell / 1009, y, (cell % 1009).toNat, Int.ediv_nonneg hc (by decide), by omega, ?_⟩
    unfold forBody
    simp only [bindPt_name, setVar_s, setVar_0]
    simp [lnbBody, b_law_numbers, pow18, hb, mod_int', div_int', l1, nD, nat_of _ p]
  · have hb' : ¬ (1000000000000000000 : Int) ≤ cell := hb
    generalize hm : (cell * 48271 + ((k : Int) + 1) * 69621 + at_ * 4001) % 2147483647 = m1
    have q0 : 0 ≤ m1 := by rw [← hm]; exact Int.emod_nonneg _ (by decide)
    have q1 : m1 < 2147483647 := by rw [← hm]; exact Int.emod_lt_of_pos _ (by decide)
    generalize hm2 : (m1 * m1 + 16807 * ((k : Int) + 3)) % 2147483629 = m2
    have p := Int.emod_nonneg (m2 / 7) (b := 1009) (by decide)
    have p2 := Int.emod_lt_of_pos (m2 / 7) (b := 1009) (by decide)
    refine ⟨cell, some (.d (.int m2)), (m2 / 7 % 1009).toNat, hc, by omega, ?_⟩
    unfold forBody
    simp only [bindPt_name, setVar_s, setVar_0]
    have b1 : binD .Mult (.int cell) (.int 48271) = some (.int (cell * 48271)) := mulR (by decide)
    have b2 : binD .Mult (.int ((k : Int) + 1)) (.int 69621) = some (.int (((k : Int) + 1) * 69621)) := mulR (by decide)
    have b3 : binD .Mult (.int at_) (.int 4001) = some (.int (at_ * 4001)) := mulR (by decide)
    have b4 : binD .Mult (.int m1) (.int m1) = some (.int (m1 * m1)) := mulR (small_m q0 (by omega))
    have b5 : binD .Mult (.int 16807) (.int ((k : Int) + 3)) = some (.int (16807 * ((k : Int) + 3))) := mulL (by decide)
    simp [lnbBody, b_law_numbers, pow18, hb', mod_int', div_int', l1, nD, b1, b2, b3, hm, b4, b5, hm2, nat_of _ p]
theorem lnb_loop (n : Nat) (sc cn : W) (at_ : Int) (ha : small64 at_ = true) : ∀ (ks : List Nat) (cell : Int) (x y : Option W) (acc : List Nat), 0 ≤ cell → (∀ k ∈ ks, k < 100000) → (∀ v ∈ acc, v ≤ 1008) → acc.length + ks.length < 100000 →
    ∃ (cell' : Int) (x' y' : Option W) (acc' : List Nat), acc'.length = acc.length + ks.length ∧ (∀ v ∈ acc', v ≤ 1008) ∧ forLoop (forBody (.name 5) (evSs (run Ga n) Ga.gl lnbBody)) (ks.map nD) [some sc, some (.d (.int at_)), some cn, some (.d (.int cell)), some (.ref 0), x, y] [dl (acc.map nD)] =
      .ok .next [some sc, some (.d (.int at_)), some cn, some (.d (.int cell')), some (.ref 0), x', y'] [dl (acc'.map nD)]
  | [], cell, x, y, acc, hc, hk, hv, hl => ⟨cell, x, y, acc, rfl, hv, by simp [forLoop]⟩
  | k :: ks, cell, x, y, acc, hc, hk, hv, hl => by
    have hl : acc.length + (ks.length + 1) < 100000 := hl
    obtain ⟨c1, y1, v, h1, h2, e⟩ := lnb_step n sc cn at_ k cell hc x y acc (by omega) (hk k (by simp)) ha
    obtain ⟨c2, x2, y2, acc2, g1, g2, e2⟩ := lnb_loop n sc cn at_ ha ks c1 (some (.d (.int (k : Int)))) y1 (acc ++ [v]) h1 (fun j hj => hk j (by simp [hj])) (fun u hu => by
      rcases List.mem_append.mp hu with hu | hu
      · exact hv u hu
      · have : u = v := by simpa using hu
        omega) (by simp; omega)
    refine ⟨c2, x2, y2, acc2, by rw [g1]; simp; omega, g2, ?_⟩
    rw [List.map_cons, forLoop, e]
    exact e2
/-- what is drawn -/
def Drawn (c : Nat) (vs : List Nat) : Prop := vs.length = c ∧ ∀ v ∈ vs, v ≤ 1008
theorem law_numbers_run (n : Nat) (ns : List Int) (a c0 : Nat) (ha : a ≤ 100) (hc0 : c0 ≤ 1000) : ∃ vs, Drawn c0 vs ∧ pcall (run Ga (n + 1)) "_law_numbers" [.d (.rol (ns.map .int)), .d (.int (a : Int)), .d (.int (c0 : Int))] = M.pure (.list (vs.map nD)) := by
  have rng : rangeD [.int (c0 : Int)] = some ((List.range c0).map nD) := range1' (j := c0) (by omega)
  have sa : small64 (a : Int) = true := small_m (by omega) (by omega)
  -- the cell ahead of the loop
  obtain ⟨cell, hc, pre⟩ : ∃ cell : Int, 0 ≤ cell ∧ ∀ k : Cr.Env → Store → SR, andS (andS (evS (run Ga n) Ga.gl (b_law_numbers.body.getD 0 .bad) (startE 7 [.d (.rol (ns.map .int)), .d (.int (a : Int)), .d (.int (c0 : Int))]) []) (fun ρ s => andS (evS (run Ga n) Ga.gl (b_law_numbers.body.getD 1 .bad) ρ s) (fun ρ s => evS (run Ga n) Ga.gl (b_law_numbers.body.getD 2 .bad) ρ s))) k =
      k [some (.d (.rol (ns.map .int))), some (.d (.int (a : Int))), some (.d (.int (c0 : Int))), some (.d (.int cell)), none, none, none] [] := by
    have m1 : binD .Mult (.int 1000003) (.int ((a : Int) + 1)) = some (.int (1000003 * ((a : Int) + 1))) := mulL (by decide)
    have m2 : ∀ c : Int, binD .Mult (.int 2) (.int c) = some (.int (2 * c)) := fun c => mulL (by decide)
    have bi : ∀ c : Int, biD .int [.int c] = some (.int c) := fun _ => rfl
    by_cases h : a < ns.length
    · have h' : (a : Int) < (ns.length : Int) := by omega
      have ix : idxD (.rol (ns.map .int)) (.int (a : Int)) = some (.int ns[a]) := idx_rolE (by rw [List.getElem?_map, List.getElem?_eq_getElem h]; rfl)
      generalize ns[a] = c at ix
      by_cases hn : c < 0
      · refine ⟨1 - 2 * c, by omega, fun k => ?_⟩
        simp [b_law_numbers, m1, h', ix, bi, hn, m2]
      · refine ⟨c, by omega, fun k => ?_⟩
        simp [b_law_numbers, m1, h', ix, bi, hn, m2]
    · have h' : ¬ (a : Int) < (ns.length : Int) := by omega
      have hn : ¬ (1000003 * ((a : Int) + 1)) < 0 := by omega
      refine ⟨1000003 * ((a : Int) + 1), by omega, fun k => ?_⟩
      simp [b_law_numbers, m1, h', hn]
  obtain ⟨c2, x2, y2, vs, g1, g2, e⟩ := lnb_loop n (.d (.rol (ns.map .int))) (.d (.int (c0 : Int))) a sa (List.range c0) cell none none [] hc (fun k hk => by have := List.mem_range.mp hk; omega) (fun v hv => by cases hv) (by simp; omega)
  refine ⟨vs, ⟨by simpa using g1, g2⟩, ?_⟩
  have e0 : run Ga (n + 1) "_law_numbers" [.d (.rol (ns.map .int)), .d (.int (a : Int)), .d (.int (c0 : Int))] [] = .ok (.ref 0) [dl (vs.map nD)] := by
    rw [run_fn f_lnb rfl]
    have e : forLoop _ _ _ _ = _ := e
    simp only [lnbBody, b_law_numbers, List.map_nil] at e
    have pr := pre (evSs (run Ga n) Ga.gl (b_law_numbers.body.drop 3))
    have body : evSs (run Ga n) Ga.gl b_law_numbers.body (startE 7 [.d (.rol (ns.map .int)), .d (.int (a : Int)), .d (.int (c0 : Int))]) [] = andS (andS (evS (run Ga n) Ga.gl (b_law_numbers.body.getD 0 .bad) (startE 7 [.d (.rol (ns.map .int)), .d (.int (a : Int)), .d (.int (c0 : Int))]) []) (fun ρ s => andS (evS (run Ga n) Ga.gl (b_law_numbers.body.getD 1 .bad) ρ s) (fun ρ s => evS (run Ga n) Ga.gl (b_law_numbers.body.getD 2 .bad) ρ s))) (evSs (run Ga n) Ga.gl (b_law_numbers.body.drop 3)) := by
      rw [andS_assoc, show b_law_numbers.body = b_law_numbers.body.getD 0 .bad :: b_law_numbers.body.getD 1 .bad :: b_law_numbers.body.getD 2 .bad :: b_law_numbers.body.drop 3 from rfl]
      simp only [evSs_fun, andS_assoc]
      rfl
    show retR (evSs (run Ga n) Ga.gl b_law_numbers.body (startE 7 _) []) = _
    rw [body, pr]
    simp [b_law_numbers, rng, -range1_E]
    rw [e]
    simp
  exact pcall_ds (xs := [.rol (ns.map .int), .int (a : Int), .int (c0 : Int)]) (st' := [.frz (.list (vs.map nD))]) e0 (freeze_dl rfl)
theorem f_same : Ga.fn "_law_same" = some b_law_same := by kernel_rfl
/-- what the law compares: of nesting below n -/
def D.cmpOk : Nat → D → Bool
  | _, .non => true | _, .int _ => true | _, .str _ => true
  | 0, _ => false
  | n + 1, .list xs => decide (xs.length ≤ 1000000) && xs.all (D.cmpOk n)
  | n + 1, .tup xs => decide (xs.length ≤ 1000000) && xs.all (D.cmpOk n)
  | _, _ => false
theorem same_loop (run' : Str → List W → M W) (x y : D) (xs : List D) (hix : ∀ (k : Nat) (v : D), xs[k]? = some v → idxD x (.int (k : Int)) = some v ∧ idxD y (.int (k : Int)) = some v) (hr : ∀ v ∈ xs, pcall run' "_law_same" [.d v, .d v] = M.pure (.bool true)) (s : Store) :
    ∀ (ks : List Nat) (z : Option W), (∀ k ∈ ks, k < xs.length) → ∃ z', forLoop (forBody (.name 2) (evSs run' Ga.gl [(.ite (.not (.call false "_law_same" [(.idx (.var 0) (.var 2)), (.idx (.var 1) (.var 2))])) [(.ret (.con (.bool false)))] [])])) (ks.map fun (k : Nat) => .int (k : Int)) [some (.d x), some (.d y), z] s = .ok .next [some (.d x), some (.d y), z'] s
  | [], z, _ => ⟨z, by simp [forLoop]⟩
  | k :: ks, z, h => by
    have hk := h k (by simp)
    have hv : xs[k]? = some xs[k] := List.getElem?_eq_getElem hk
    obtain ⟨i1, i2⟩ := hix k _ hv
    have q := hr xs[k] (List.getElem_mem hk)
    generalize xs[k] = v at i1 i2 q hv
    obtain ⟨z', e⟩ := same_loop run' x y xs hix hr s ks (some (.d (.int (k : Int)))) (fun j hj => h j (by simp [hj]))
    refine ⟨z', ?_⟩
    have e0 : forBody (.name 2) (evSs run' Ga.gl [(.ite (.not (.call false "_law_same" [(.idx (.var 0) (.var 2)), (.idx (.var 1) (.var 2))])) [(.ret (.con (.bool false)))] [])]) (.int (k : Int)) [some (.d x), some (.d y), z] s = .ok .next [some (.d x), some (.d y), some (.d (.int (k : Int)))] s := by
      unfold forBody
      simp only [bindPt_name, setVar_s, setVar_0]
      simp [i1, i2, q]
    rw [List.map_cons, forLoop, e0]
    exact e
theorem same_run : ∀ (n : Nat) (x : D), D.cmpOk n x = true → ∀ s, run Ga (n + 1) "_law_same" [.d x, .d x] s = .ok (.d (.bool true)) s
  | n, .non, _, s => by
    rw [run_fn f_same rfl]
    simp [b_law_same, isNon]
  | n, .int i, _, s => by
    rw [run_fn f_same rfl]
    simp [b_law_same, isNon, isID]
  | n, .str i, _, s => by
    rw [run_fn f_same rfl]
    simp [b_law_same, isNon, isID]
  | 0, .bool _, h, _ => by cases h
  | 0, .list _, h, _ => by cases h
  | 0, .tup _, h, _ => by cases h
  | 0, .rol _, h, _ => by cases h
  | n + 1, .bool _, h, _ => by cases h
  | n + 1, .rol _, h, _ => by cases h
  | n + 1, .list xs, h, s => by
    have h : (decide (xs.length ≤ 1000000) && xs.all (D.cmpOk n)) = true := h
    rw [Bool.and_eq_true, decide_eq_true_eq] at h
    obtain ⟨z', e⟩ := same_loop (run Ga (n + 1)) (.list xs) (.list xs) xs (fun k v hv => ⟨idx_listE hv, idx_listE hv⟩) (fun v hv => pcall2 (same_run n v (List.all_eq_true.mp h.2 v hv) [])) s (List.range xs.length) none (fun k hk => List.mem_range.mp hk)
    rw [run_fn f_same rfl]
    simp [b_law_same, isNon, isID, range1' (j := xs.length) (by omega), -range1_E]
    rw [e]
    simp
  | n + 1, .tup xs, h, s => by
    have h : (decide (xs.length ≤ 1000000) && xs.all (D.cmpOk n)) = true := h
    rw [Bool.and_eq_true, decide_eq_true_eq] at h
    obtain ⟨z', e⟩ := same_loop (run Ga (n + 1)) (.tup xs) (.tup xs) xs (fun k v hv => ⟨L2.atI_nat hv, L2.atI_nat hv⟩) (fun v hv => pcall2 (same_run n v (List.all_eq_true.mp h.2 v hv) [])) s (List.range xs.length) none (fun k hk => List.mem_range.mp hk)
    rw [run_fn f_same rfl]
    simp [b_law_same, isNon, isID, range1' (j := xs.length) (by omega), -range1_E]
    rw [e]
    simp
end K78

namespace K78
open Cr PySem
theorem f_isw : Ga.fn "is_whole" = some b_is_whole := by kernel_rfl
theorem f_sos : Ga.fn "size_of_side" = some b_size_of_side := by kernel_rfl
theorem f_isq : Ga.fn "is_square" = some b_is_square := by kernel_rfl
theorem f_isp : Ga.fn "is_picture" = some b_is_picture := by kernel_rfl
theorem f_lo : Ga.fn "lines_of" = some b_lines_of := by kernel_rfl
theorem g_LS : Ga.gl "LEAST_SIZE" = some (.int 1) := by kernel_rfl
theorem g_MS : Ga.gl "MOST_SIZE" = some (.int 8) := by kernel_rfl
theorem g_DK : Ga.gl "DARK" = some (.str [35]) := by kernel_rfl
theorem g_LT : Ga.gl "LIGHT" = some (.str [46]) := by kernel_rfl
theorem g_MSD : Ga.gl "MOST_SIDE" = some (.int 300) := by kernel_rfl
theorem is_whole_run (n : Nat) (i : Int) (s : Store) : run Ga (n + 1) "is_whole" [.d (.int i)] s = .ok (.d (.bool true)) s := by
  rw [run_fn f_isw rfl]
  simp [b_is_whole, isID]
/-- the size of a side -/
def szOk (n : Nat) : Bool := decide (((n : Int) - 17) % 4 = 0) && decide (1 ≤ ((n : Int) - 17) / 4) && decide (((n : Int) - 17) / 4 ≤ 8)
theorem size_of_side_run (k : Nat) (n : Nat) (s : Store) : run Ga (k + 2) "size_of_side" [.d (.int (n : Int))] s = .ok (.d (if szOk n then .int (((n : Int) - 17) / 4) else .non)) s := by
  rw [run_fn f_sos rfl]
  have e : pcall (run Ga (k + 1)) "is_whole" [.d (.int (n : Int))] = M.pure (.bool true) := pcall1 (is_whole_run k n [])
  simp [b_size_of_side, e, mod_int', div_int', g_LS, g_MS]
  unfold szOk
  by_cases h1 : ((n : Int) - 17) % 4 = 0
  · by_cases h2 : 1 ≤ ((n : Int) - 17) / 4
    · by_cases h3 : ((n : Int) - 17) / 4 ≤ 8
      · simp [h1, h2, h3]
      · simp [h1, h2, h3]
    · simp [h1, h2]
  · simp [h1]
theorem szOk_range {n : Nat} (h : szOk n = true) : n ≤ 49 := by
  unfold szOk at h
  simp at h
  omega
/-- texts that are rows of a square -/
def mark (c : Nat) : Bool := decide (c = 35) || decide (c = 46)
def isSq (ps : List T) : Bool := szOk ps.length && (ps.all (fun p => decide (p.length = ps.length)) && ps.all (fun p => p.all mark))
theorem lines_of_run (n : Nat) (t : T) (h : t.length ≤ 1000000) (s : Store) : run Ga (n + 1) "lines_of" [.d (.str t)] s = .ok (.ref s.length) (s ++ [dl ((splitC [10] t).map .str)]) := by
  have sp := split_E (c := 10) (t := t) (by decide) h
  rw [run_fn f_lo rfl]
  simp [b_lines_of, sp]
theorem lines_of_p (n : Nat) (t : T) (h : t.length ≤ 1000000) : pcall (run Ga (n + 1)) "lines_of" [.d (.str t)] = M.pure (.list ((splitC [10] t).map .str)) :=
  pcall_ds (xs := [.str t]) (lines_of_run n t h []) (freeze_dl rfl)
theorem is_square_run (n : Nat) (ps : List T) (hl : ps.length ≤ 10000000) (hp : ∀ p ∈ ps, p.length ≤ 10000000) (s : Store) : run Ga (n + 3) "is_square" [.d (.list (ps.map .str))] s = .ok (.d (.bool (isSq ps))) s := by
  rw [run_fn f_isq rfl]
  have e : pcall (run Ga (n + 2)) "size_of_side" [.d (.int (ps.length : Int))] = M.pure (if szOk ps.length then .int (((ps.length : Int) - 17) / 4) else .non) := pcall1 (size_of_side_run n ps.length [])
  simp [b_is_square, e, isID]
  by_cases h1 : szOk ps.length = true
  · simp [h1, isNon]
    rw [lc_g .str (fun p : T => .bool (decide (p.length = ps.length))) (fun p hq => by
      have := hp p hq
      have f1 : fits p.length = true := fits_of (by omega)
      simp [lcBody_eq, isID, len_str f1, Int.natCast_inj]
      ) (by omega)]
    simp only [pure_bindM, all_bools, lift_some, truth_bool]
    by_cases h2 : ps.all (fun p => decide (p.length = ps.length)) = true
    · simp [h2]
      rw [lc_g .str (fun p : T => .bool (p.all mark)) (fun p hq => by
        have := hp p hq
        have f1 : fits p.length = true := fits_of (by omega)
        have g : ∀ c : Nat, cmpD .In (.str [c]) (.tup [.str [35], .str [46]]) = some (mark c) := fun c => by
          simp [cmpD, inD, D.flat, eqF, mark, eq_comm]
        simp [lcBody_eq, walk_str f1, g_DK, g_LT]
        rw [lc_str (fun c => some (.bool (mark c))) (fun c _ => by simp [lcBody_eq, g_DK, g_LT, g]) (by omega)]
        have fm : List.filterMap (fun c => some (D.bool (mark c))) p = p.map fun c => .bool (mark c) := by simp
        rw [fm]
        simp [all_bools]) (by omega)]
      simp [all_bools, isSq, h1, h2]
    · simp only [Bool.not_eq_true] at h2
      simp [h2, isSq]
  · simp only [Bool.not_eq_true] at h1
    simp [h1, isNon, isSq]
end K78

namespace K78
open Cr PySem
/-- the signs of the levels -/
def LV : T := [48, 49, 50, 51, 52, 53, 54, 55, 56, 57, 97, 98, 99, 100, 101, 102, 103]
theorem LVc : [48, 49, 50, 51, 52, 53, 54, 55, 56, 57, 97, 98, 99, 100, 101, 102, 103] = LV := rfl
theorem g_LV : Ga.gl "LEVELS" = some (.str LV) := by kernel_rfl
theorem g_ML : Ga.gl "MOST_LEVEL" = some (.int 16) := by kernel_rfl
theorem f_rr : Ga.fn "read_row" = some b_read_row := by kernel_rfl
def rowD (r : List Nat) : D := .list (r.map nD)
def picD (p : List (List Nat)) : D := .list (p.map rowD)
def okRow (t : T) : Bool := !t.isEmpty && t.all (fun c => decide (c ∈ LV))
def rowOf (t : T) : List Nat := t.map fun c => LV.idxOf c
theorem addI_same {w : Int} : ∀ k : Nat, (List.replicate k w).foldl addI [w] = [w]
  | 0 => rfl
  | k + 1 => by
    rw [List.replicate_succ, List.foldl_cons]
    have : addI [w] w = [w] := by simp [addI]
    rw [this]
    exact addI_same k
theorem lenSet_same {w : Int} {k : Nat} (h : k + 1 < 4096) : lenSet (List.replicate (k + 1) (.int w)) = some (.int 1) := by
  have hi : ∀ k : Nat, intsL (List.replicate k (D.int w)) = some (List.replicate k w) := fun k => by
    induction k with
    | zero => rfl
    | succ k ih => simp [List.replicate_succ, intsL, ih]
  unfold lenSet
  rw [List.length_replicate, if_pos (decide_eq_true h), hi]
  simp only [Option.map_some]
  rw [List.replicate_succ, List.foldl_cons]
  have : addI [] w = [w] := by simp [addI]
  rw [this, addI_same]
  rfl
theorem map_same {α : Type} {g : α → D} {c : D} : ∀ {xs : List α}, (∀ x ∈ xs, g x = c) → xs.map g = List.replicate xs.length c
  | [], _ => rfl
  | x :: xs, h => by
    rw [List.map_cons, h x (by simp), map_same fun y hy => h y (by simp [hy])]
    rfl
theorem is_picture_run (n : Nat) (rows : List (List Nat)) (w m : Nat) (h0 : rows ≠ []) (hl : rows.length ≤ 1000000) (hw : ∀ r ∈ rows, r.length = w) (w1 : 1 ≤ w) (w2 : w ≤ 1000000) (hm : ∀ r ∈ rows, ∀ v ∈ r, v ≤ m) (s : Store) :
    run Ga (n + 2) "is_picture" [.d (picD rows), .d (.int (m : Int))] s = .ok (.d (.bool (decide (rows.length ≤ 300) && decide (w ≤ 300)))) s := by
  have L1 : 1 ≤ rows.length := by
    cases rows with
    | nil => exact absurd rfl h0
    | cons _ _ => simp
  rw [run_fn f_isp rfl]
  by_cases h1 : rows.length ≤ 300
  · obtain ⟨r0, rest, er⟩ : ∃ r0 rest, rows = r0 :: rest := by
      cases rows with
      | nil => exact absurd rfl h0
      | cons a b => exact ⟨a, b, rfl⟩
    have ix : idxD (picD rows) (.int 0) = some (rowD r0) := by rw [er]; exact idx_listE (j := 0) rfl
    have r0w : r0.length = w := hw r0 (by rw [er]; simp)
    have loop1 : ∀ {body : D → M (Option D)}, (∀ r ∈ rows, body (rowD r) = M.pure (some (.bool true))) → lcLoop body (rows.map rowD) [] = M.pure (rows.map fun _ => .bool true) := fun h => lc_g rowD (fun _ => .bool true) h (by omega)
    have loop2 : ∀ {body : D → M (Option D)}, (∀ r ∈ rows, body (rowD r) = M.pure (some (.int (w : Int)))) → lcLoop body (rows.map rowD) [] = M.pure (rows.map fun _ => .int (w : Int)) := fun h => lc_g rowD (fun _ => .int (w : Int)) h (by omega)
    have ls : lenSet (rows.map fun _ => D.int (w : Int)) = some (.int 1) := by
      rw [map_same (c := D.int (w : Int)) fun _ _ => rfl]
      obtain ⟨k, e⟩ : ∃ k, rows.length = k + 1 := ⟨rows.length - 1, by omega⟩
      rw [e]
      exact lenSet_same (by omega)
    have allT : ∀ (α : Type) (xs : List α), biD .all [.list (xs.map fun _ => .bool true)] = some (.bool true) := fun α xs => by
      rw [all_bools (fun _ => true)]
      simp
    have b1 : ¬ ((rows.length : Int) < 1) := by omega
    have b2 : ¬ ((300 : Int) < (rows.length : Int)) := by omega
    have wh : ∀ i : Int, pcall (run Ga (n + 1)) "is_whole" [.d (.int i)] = M.pure (.bool true) := fun i => pcall1 (is_whole_run n i [])
    simp [b_is_picture, isID, g_MSD]
    have pD : picD rows = .list (rows.map rowD) := rfl
    rw [pD]
    simp [isID, b1, b2]
    rw [loop1 (fun r hr => by
      have := hw r hr
      have l : 0 < r.length := by omega
      simp [lcBody_eq, rowD, isID, l])]
    simp [allT]
    rw [loop2 (fun r hr => by simp [lcBody_eq, rowD, hw r hr])]
    simp [ls]
    rw [pD] at ix
    rw [ix]
    simp [rowD, r0w, g_MSD]
    by_cases w3 : w ≤ 300
    · have b3 : ¬ ((300 : Int) < (w : Int)) := by omega
      simp only [b3]
      have loop3 : ∀ {body : D → M (Option D)}, (∀ r ∈ rows, body (.list (r.map nD)) = M.pure (some (.bool true))) → lcLoop body (rows.map rowD) [] = M.pure (rows.map fun _ => .bool true) := fun h => loop1 h
      simp
      rw [loop3 (fun r hr => by
        simp [lcBody_eq]
        rw [lc_g nD (fun _ => .bool true) (fun v hv => by
          have := hm r hr v hv
          simp [lcBody_eq, wh, this]) (by have := hw r hr; omega)]
        simp [allT])]
      simp [allT, h1, w3]
    · have b3 : ((300 : Int) < (w : Int)) := by omega
      simp [b3, w3]
  · have b2 : (300 : Int) < (rows.length : Int) := by omega
    have b1 : ¬ ((rows.length : Int) < 1) := by omega
    simp [b_is_picture, isID, g_MSD]
    have pD : picD rows = .list (rows.map rowD) := rfl
    rw [pD]
    simp [isID, b1, b2, h1]
theorem in_LV (c : Nat) : cmpD .In (.str [c]) (.str LV) = some (decide (c ∈ LV)) := rfl
theorem read_row_run (n : Nat) (t : T) (h : t.length ≤ 1000000) (s : Store) : run Ga (n + 1) "read_row" [.d (.str t)] s = if okRow t then .ok (.ref s.length) (s ++ [dl ((rowOf t).map nD)]) else .ok (.d .non) s := by
  have f1 : fits t.length = true := fits_of (by omega)
  rw [run_fn f_rr rfl]
  simp [b_read_row, truth_str f1, walk_str f1, g_LV]
  by_cases h0 : t = []
  · subst h0
    simp [okRow]
  · have h0' : t.isEmpty = false := by simpa using h0
    simp only [h0', h0, if_false]
    rw [lc_str (fun c => some (.bool (decide (c ∈ LV)))) (fun c _ => by simp [lcBody_eq, g_LV, -in_sign, in_LV]) (by omega)]
    have fm : List.filterMap (fun c => some (D.bool (decide (c ∈ LV)))) t = t.map fun c => .bool (decide (c ∈ LV)) := by simp
    rw [fm]
    simp only [pure_bindM, all_bools, lift_some]
    cases h1 : t.all (fun c => decide (c ∈ LV)) with
    | true =>
      have ok : okRow t = true := by simp only [okRow, h0', h1]; rfl
      simp [ok, walk_str f1]
      rw [lc_str (fun c => some (nD (LV.idxOf c))) (fun c hc => by
        have hc := of_decide_eq_true (List.all_eq_true.mp h1 c hc)
        simp [lcBody_eq, g_LV, index_E hc]) (by omega)]
      have fm : List.filterMap (fun c => some (nD (LV.idxOf c))) t = (rowOf t).map nD := by
        unfold rowOf
        simp
      rw [fm]
      simp
    | false =>
      have ok : okRow t = false := by simp only [okRow, h0', h1]; rfl
      simp [ok]
end K78

namespace K78
open Cr PySem
theorem f_rp : Ga.fn "read_picture" = some b_read_picture := by kernel_rfl
def refsF (L k : Nat) : List W := (List.range k).map fun i => .ref (L + 1 + i)
def rowC (r : List Nat) : Cell := dl (r.map nD)
def stF (s : Store) (rows : List (List Nat)) : Store := s ++ Cell.list (refsF s.length rows.length) :: rows.map rowC
theorem stF_len (s : Store) (rows : List (List Nat)) : (stF s rows).length = s.length + 1 + rows.length := by simp [stF]; omega
theorem stF_at (s : Store) (rows : List (List Nat)) (more : Store) : (stF s rows ++ more)[s.length]? = some (.list (refsF s.length rows.length)) := by
  unfold stF
  rw [List.append_assoc, List.getElem?_append_right (Nat.le_refl _)]
  simp
theorem stF_at0 (s : Store) (rows : List (List Nat)) : (stF s rows)[s.length]? = some (.list (refsF s.length rows.length)) := by
  have := stF_at s rows []
  simpa using this
theorem stF_row (s : Store) (rows : List (List Nat)) (more : Store) {i : Nat} {r : List Nat} (h : rows[i]? = some r) : (stF s rows ++ more)[s.length + 1 + i]? = some (rowC r) := by
  have hi := (List.getElem?_eq_some_iff.mp h).1
  unfold stF
  rw [List.append_assoc, List.getElem?_append_right (by omega), show s.length + 1 + i - s.length = i + 1 by omega, List.cons_append, List.getElem?_cons_succ, List.getElem?_append_left (by simpa using hi), List.getElem?_map, h]
  rfl
theorem stF_row0 (s : Store) (rows : List (List Nat)) {i : Nat} {r : List Nat} (h : rows[i]? = some r) : (stF s rows)[s.length + 1 + i]? = some (rowC r) := by
  have := stF_row s rows [] h
  simpa using this
theorem refsF_succ (L k : Nat) : refsF L (k + 1) = refsF L k ++ [.ref (L + 1 + k)] := by
  unfold refsF
  rw [List.range_succ, List.map_append]
  rfl
theorem stF_push (s : Store) (rows : List (List Nat)) (r : List Nat) : (stF s rows ++ [rowC r]).set s.length (.list (refsF s.length rows.length ++ [.ref (s.length + 1 + rows.length)])) = stF s (rows ++ [r]) := by
  unfold stF
  rw [List.append_assoc, List.set_append_right _ _ (Nat.le_refl _), Nat.sub_self, List.cons_append, List.set_cons_zero, List.length_append, ← refsF_succ, List.map_append]
  rfl
theorem stF_new (s : Store) (rows : List (List Nat)) (r : List Nat) : (stF s rows ++ [rowC r])[s.length + 1 + rows.length]? = some (rowC r) := by
  rw [← stF_len, List.getElem?_append_right (Nat.le_refl _)]
  simp
theorem mapM_ix {α β : Type} {f : α → Option β} : ∀ {l : List α} {r : List β}, l.length = r.length → (∀ (i : Nat) (a : α) (b : β), l[i]? = some a → r[i]? = some b → f a = some b) → l.mapM f = some r
  | [], [], _, _ => rfl
  | [], _ :: _, h, _ => by cases h
  | _ :: _, [], h, _ => by cases h
  | a :: l, b :: r, h, g => by
    rw [List.mapM_cons, g 0 a b rfl rfl, mapM_ix (by simpa using h) fun i a b h1 h2 => g (i + 1) a b (by simpa using h1) (by simpa using h2)]
    rfl
theorem refsF_at {L k i : Nat} (h : i < k) : (refsF L k)[i]? = some (.ref (L + 1 + i)) := by
  unfold refsF
  rw [List.getElem?_map, List.getElem?_range h]
  rfl
theorem refsF_len (L k : Nat) : (refsF L k).length = k := by simp [refsF]
theorem stF_stands (s : Store) (rows : List (List Nat)) (more : Store) (k : Nat) : stands (stF s rows ++ more) (k + 2) (.ref s.length) = some (picD rows) := by
  rw [stands_ref, stF_at]
  have e : (refsF s.length rows.length).mapM (stands (stF s rows ++ more) (k + 1)) = some (rows.map rowD) := by
    refine mapM_ix (by rw [refsF_len, List.length_map]) fun i a b h1 h2 => ?_
    have hi : i < rows.length := by have := (List.getElem?_eq_some_iff.mp h1).1; rwa [refsF_len] at this
    rw [refsF_at hi] at h1
    cases h1
    rw [List.getElem?_map, List.getElem?_eq_getElem hi] at h2
    cases h2
    exact stands_dl (stF_row s rows more (List.getElem?_eq_getElem hi))
  show ((refsF s.length rows.length).mapM (stands (stF s rows ++ more) (k + 1))).map D.list = _
  rw [e]
  rfl
theorem stF_stands0 (s : Store) (rows : List (List Nat)) (k : Nat) : stands (stF s rows) (k + 2) (.ref s.length) = some (picD rows) := by
  have := stF_stands s rows [] k
  simpa using this
/-- the first line that is no row, or of another length -/
def firstBad (w : Nat) : Nat → List T → Option Nat
  | _, [] => none
  | k, p :: ps => if okRow p && decide (p.length = w) then firstBad w (k + 1) ps else some k
def rpBody : List S := match b_read_picture.body with
  | [_, .for _ _ b, _, _] => b
  | _ => []
theorem rowOf_len (t : T) : (rowOf t).length = t.length := by simp [rowOf]
theorem isEmpty_refs (L k : Nat) : (refsF L k).isEmpty = decide (k = 0) := by
  cases k with
  | zero => rfl
  | succ k =>
    have : refsF L (k + 1) ≠ [] := by
      intro h
      have := congrArg List.length h
      rw [refsF_len] at this
      cases this
    simp [this]
theorem refsF_cons (L k : Nat) : ∃ F, refsF L (k + 1) = .ref (L + 1) :: F := by
  cases e : refsF L (k + 1) with
  | nil =>
    have := congrArg List.length e
    rw [refsF_len] at this
    cases this
  | cons w F =>
    have h := refsF_at (L := L) (k := k + 1) (i := 0) (by omega)
    rw [e] at h
    cases h
    exact ⟨F, rfl⟩
theorem rp_nil (n : Nat) (q y : W) (i : Int) (S S2 : Store) (L R : Nat) (rd : List D) (h1 : S[L]? = some (.list [])) (h2 : S[R]? = some (dl rd)) (h3 : S.set L (.list [.ref R]) = S2) :
    evSs (run Ga n) Ga.gl (rpBody.drop 1) [some q, some (.ref L), some (.d (.int i)), some y, some (.ref R)] S = .ok .next [some q, some (.ref L), some (.d (.int i)), some y, some (.ref R)] S2 := by
  simp [rpBody, b_read_picture, h1, h2, isNon, h3]
theorem rp_cons (n : Nat) (q y : W) (i : Int) (S S2 : Store) (L R R0 : Nat) (F : List W) (rd r0 : List D) (h1 : S[L]? = some (.list (.ref R0 :: F))) (h2 : S[R]? = some (dl rd)) (h0 : S[R0]? = some (dl r0)) (hl : F.length + 1 < 16777216) (h3 : S.set L (.list (.ref R0 :: F ++ [.ref R])) = S2) :
    evSs (run Ga n) Ga.gl (rpBody.drop 1) [some q, some (.ref L), some (.d (.int i)), some y, some (.ref R)] S = if rd.length = r0.length then .ok .next [some q, some (.ref L), some (.d (.int i)), some y, some (.ref R)] S2 else .ok (.exc "BadLine" (some ("line", .int i))) [some q, some (.ref L), some (.d (.int i)), some y, some (.ref R)] S := by
  have ix : L2.atI (W.ref R0 :: F) (0 : Int) = some (.ref R0) := L2.atI_nat (j := 0) rfl
  simp only [List.cons_append] at h3
  by_cases e : rd.length = r0.length
  · simp [rpBody, b_read_picture, h1, h2, h0, isNon, h3, ixS_W ix, hl, e]
  · have e' : ¬ (rd.length : Int) = (r0.length : Int) := by omega
    simp [rpBody, b_read_picture, h1, h2, h0, isNon, h3, ixS_W ix, hl, e, e']
theorem rp_step (n : Nat) (q : W) (s : Store) (rows : List (List Nat)) (w : Nat) (p : T) (x y z : Option W) (hp : p.length ≤ 1000000) (hl : rows.length < 1000000) (hw : ∀ r ∈ rows, r.length = w) (h0 : rows = [] → p.length = w) :
    if okRow p && decide (p.length = w) then forBody (.tup [.name 2, .name 3]) (evSs (run Ga (n + 1)) Ga.gl rpBody) (.tup [.int (rows.length : Int), .str p]) [some q, some (.ref s.length), x, y, z] (stF s rows) =
        .ok .next [some q, some (.ref s.length), some (.d (.int (rows.length : Int))), some (.d (.str p)), some (.ref (s.length + 1 + rows.length))] (stF s (rows ++ [rowOf p]))
      else ∃ ρ st, forBody (.tup [.name 2, .name 3]) (evSs (run Ga (n + 1)) Ga.gl rpBody) (.tup [.int (rows.length : Int), .str p]) [some q, some (.ref s.length), x, y, z] (stF s rows) = .ok (.exc "BadLine" (some ("line", .int (rows.length : Int)))) ρ st := by
  have rr := read_row_run n p hp (stF s rows)
  have body : rpBody = .asg (.name 4) (.call true "read_row" [.var 3]) :: rpBody.drop 1 := rfl
  unfold forBody
  simp only [bindPt_tup, bindPts_cons, bindPts_nil, bindPt_name, Option.bind_some, setVar_s, setVar_0]
  cases ok : okRow p with
  | false =>
    rw [ok] at rr
    rw [if_neg (by simp), body]
    refine ⟨[some q, some (.ref s.length), some (.d (.int (rows.length : Int))), some (.d (.str p)), some (.d .non)], stF s rows, ?_⟩
    rw [step_asgM (w := .d .non) (s' := stF s rows) (by simp; exact rr)]
    simp [rpBody, b_read_picture, isNon]
  | true =>
    rw [ok, if_pos rfl, stF_len] at rr
    have rr : run Ga (n + 1) "read_row" [.d (.str p)] (stF s rows) = .ok (.ref (s.length + 1 + rows.length)) (stF s rows ++ [rowC (rowOf p)]) := rr
    have st1 := step_asgM (rest := rpBody.drop 1) (i := 4) (ρ := [some q, some (.ref s.length), some (.d (.int (rows.length : Int))), some (.d (.str p)), z]) (run := run Ga (n + 1)) (gl := Ga.gl) (e := .call true "read_row" [.var 3]) (w := .ref (s.length + 1 + rows.length)) (s' := stF s rows ++ [rowC (rowOf p)]) (s := stF s rows) (by simp; exact rr)
    simp only [setVar_s, setVar_0] at st1
    rw [body, st1]
    have a1 : (stF s rows ++ [rowC (rowOf p)])[s.length + 1 + rows.length]? = some (dl ((rowOf p).map nD)) := stF_new s rows (rowOf p)
    have pu := stF_push s rows (rowOf p)
    have a0 := stF_at s rows [rowC (rowOf p)]
    cases rows with
    | nil =>
      have e : (true && decide (p.length = w)) = true := by simp [h0 rfl]
      rw [if_pos e]
      exact rp_nil (n + 1) q (.d (.str p)) _ _ _ _ _ _ a0 a1 pu
    | cons r0 rest =>
      obtain ⟨F, eF⟩ := refsF_cons s.length rest.length
      have eF : refsF s.length (r0 :: rest).length = .ref (s.length + 1) :: F := eF
      have lF : F.length = rest.length := by
        have := congrArg List.length eF
        rw [refsF_len] at this
        simpa using this.symm
      have a2 : (stF s (r0 :: rest) ++ [rowC (rowOf p)])[s.length + 1]? = some (dl (r0.map nD)) := stF_row s (r0 :: rest) [rowC (rowOf p)] (i := 0) rfl
      rw [eF] at a0 pu
      have st2 := rp_cons (n + 1) q (.d (.str p)) ((r0 :: rest).length : Nat) _ _ _ _ _ F _ _ a0 a1 a2 (by rw [lF]; simp at hl; omega) pu
      have hr0 := hw r0 (by simp)
      rw [st2]
      simp only [List.length_map, rowOf_len, hr0]
      by_cases e : p.length = w
      · have e2 : (true && decide (p.length = w)) = true := by simp [e]
        rw [if_pos e2, if_pos e]
      · have e2 : ¬ (true && decide (p.length = w)) = true := by simp [e]
        rw [if_neg e2, if_neg e]
        exact ⟨_, _, rfl⟩
def enumS (k : Nat) (ps : List T) : List D := (ps.zipIdx k).map fun p => .tup [.int (p.2 : Int), .str p.1]
theorem enumL_S (ps : List T) : enumL (ps.map .str) = enumS 0 ps := by
  unfold enumL enumS
  rw [List.zipIdx_map, List.map_map]
  rfl
theorem enumS_cons (k : Nat) (p : T) (ps : List T) : enumS k (p :: ps) = .tup [.int (k : Int), .str p] :: enumS (k + 1) ps := by
  simp [enumS]
theorem rp_loop (n : Nat) (q : W) (s : Store) (w : Nat) : ∀ (ps : List T) (rows : List (List Nat)) (x y z : Option W), (∀ p ∈ ps, p.length ≤ 1000000) → rows.length + ps.length ≤ 1000000 → (∀ r ∈ rows, r.length = w) → (rows = [] → ∀ p, ps.head? = some p → p.length = w) →
    match firstBad w rows.length ps with
    | none => ∃ x' y' z', forLoop (forBody (.tup [.name 2, .name 3]) (evSs (run Ga (n + 1)) Ga.gl rpBody)) (enumS rows.length ps) [some q, some (.ref s.length), x, y, z] (stF s rows) = .ok .next [some q, some (.ref s.length), x', y', z'] (stF s (rows ++ ps.map rowOf))
    | some k => ∃ ρ st, forLoop (forBody (.tup [.name 2, .name 3]) (evSs (run Ga (n + 1)) Ga.gl rpBody)) (enumS rows.length ps) [some q, some (.ref s.length), x, y, z] (stF s rows) = .ok (.exc "BadLine" (some ("line", .int (k : Int)))) ρ st
  | [], rows, x, y, z, _, _, _, _ => ⟨x, y, z, by simp [enumS, forLoop]⟩
  | p :: ps, rows, x, y, z, hp, hl, hw, h0 => by
    have hl : rows.length + (ps.length + 1) ≤ 1000000 := hl
    have st := rp_step n q s rows w p x y z (hp p (by simp)) (by omega) hw (fun e => h0 e p rfl)
    rw [enumS_cons]
    unfold firstBad
    by_cases e : (okRow p && decide (p.length = w)) = true
    · rw [if_pos e] at st
      rw [if_pos e]
      have ih := rp_loop n q s w ps (rows ++ [rowOf p]) (some (.d (.int (rows.length : Int)))) (some (.d (.str p))) (some (.ref (s.length + 1 + rows.length))) (fun p hq => hp p (by simp [hq])) (by simp; omega) (fun r hr => by
        rcases List.mem_append.mp hr with hr | hr
        · exact hw r hr
        · have : r = rowOf p := by simpa using hr
          rw [this, rowOf_len]
          have := (Bool.and_eq_true _ _).mp e
          exact of_decide_eq_true this.2) (fun z => by simp at z)
      have el : (rows ++ [rowOf p]).length = rows.length + 1 := by simp
      rw [el] at ih
      rw [forLoop, st]
      cases hb : firstBad w (rows.length + 1) ps with
      | none =>
        rw [hb] at ih
        obtain ⟨x', y', z', e2⟩ := ih
        refine ⟨x', y', z', ?_⟩
        show forLoop _ _ _ _ = _
        rw [e2, List.append_assoc]
        rfl
      | some k =>
        rw [hb] at ih
        exact ih
    · rw [if_neg e] at st
      rw [if_neg e]
      obtain ⟨ρ, s2, e2⟩ := st
      refine ⟨ρ, s2, ?_⟩
      rw [forLoop, e2]
/-- what reading a picture comes to -/
def lines (t : T) : List T := splitC [10] t
def wid (t : T) : Nat := ((lines t).headD []).length
def rowsOf (t : T) : List (List Nat) := (lines t).map rowOf
inductive Rd where
  | rows (r : List (List Nat)) | bad (k : Int)
def readP (t : T) : Rd := match firstBad (wid t) 0 (lines t) with
  | some k => .bad k
  | none => if (lines t).length ≤ 300 ∧ wid t ≤ 300 then .rows (rowsOf t) else .bad (-1)
theorem firstBad_none : ∀ {w k : Nat} {ps : List T}, firstBad w k ps = none → ∀ p ∈ ps, okRow p = true ∧ p.length = w
  | w, k, [], _, p, hp => by cases hp
  | w, k, q :: ps, h, p, hp => by
    unfold firstBad at h
    by_cases e : (okRow q && decide (q.length = w)) = true
    · rw [if_pos e] at h
      have e2 := (Bool.and_eq_true _ _).mp e
      rcases List.mem_cons.mp hp with rfl | hp
      · exact ⟨e2.1, of_decide_eq_true e2.2⟩
      · exact firstBad_none h p hp
    · rw [if_neg e] at h
      cases h
theorem idx_LV (c : Nat) : LV.idxOf c ≤ 17 := List.idxOf_le_length
theorem okRow_lt {t : T} (h : okRow t = true) : ∀ v ∈ rowOf t, v ≤ 16 := fun v hv => by
  obtain ⟨c, hc, rfl⟩ := List.mem_map.mp hv
  have := of_decide_eq_true (List.all_eq_true.mp ((Bool.and_eq_true _ _).mp h).2 c hc)
  have := List.idxOf_lt_length_of_mem this
  have l : LV.length = 17 := rfl
  omega
theorem okRow_ne {t : T} (h : okRow t = true) : 1 ≤ t.length := by
  have := ((Bool.and_eq_true _ _).mp h).1
  cases t with
  | nil => cases this
  | cons _ _ => simp
theorem lines_len {t : T} (h : t.length ≤ 100000) : (lines t).length ≤ 100001 ∧ ∀ p ∈ lines t, p.length ≤ 100000 := ⟨by have := split_num 10 t; unfold lines; omega, fun p hp => by have := split_len hp; omega⟩
theorem read_picture_run (n : Nat) (t : T) (h : t.length ≤ 100000) (s : Store) : match readP t with
    | .rows r => run Ga (n + 3) "read_picture" [.d (.str t)] s = .ok (.ref s.length) (stF s r)
    | .bad k => ∃ st, run Ga (n + 3) "read_picture" [.d (.str t)] s = .exc "BadLine" (some ("line", .int k)) st := by
  obtain ⟨l1, l2⟩ := lines_len h
  have ne : lines t ≠ [] := split_ne 10 t
  have lo : pcall (run Ga (n + 2)) "lines_of" [.d (.str t)] = M.pure (.list ((lines t).map .str)) := lines_of_p (n + 1) t (by omega)
  have lp := rp_loop (n + 1) (.d (.str t)) s (wid t) (lines t) [] none none none (fun p hp => by have := l2 p hp; omega) (by simp; omega) (fun r hr => by cases hr) (fun _ p hp => by
    unfold wid
    cases e : lines t with
    | nil => rw [e] at hp; cases hp
    | cons a b =>
      rw [e] at hp
      cases hp
      rfl)
  have s0 : stF s [] = s ++ [.list []] := rfl
  rw [s0] at lp
  have el := enumL_S (lines t)
  unfold readP
  have l0 : ([] : List (List Nat)).length = 0 := rfl
  rw [l0] at lp
  have body : rpBody = rpBody := rfl
  cases hb : firstBad (wid t) 0 (lines t) with
  | some k =>
    rw [hb] at lp
    obtain ⟨ρ, st, e⟩ := lp
    refine ⟨st, ?_⟩
    rw [run_fn f_rp rfl]
    simp only [rpBody, b_read_picture] at e
    simp [b_read_picture, lo, el]
    rw [e]
    simp
  | none =>
    rw [hb] at lp
    obtain ⟨x, y, z, e⟩ := lp
    have all := firstBad_none hb
    have rne : rowsOf t ≠ [] := by
      unfold rowsOf
      simpa using ne
    have w1 : 1 ≤ wid t := by
      unfold wid
      cases e : lines t with
      | nil => exact absurd e ne
      | cons a b =>
        exact okRow_ne (all a (by rw [e]; simp)).1
    have w2 : wid t ≤ 100000 := by
      unfold wid
      cases e : lines t with
      | nil => exact absurd e ne
      | cons a b => exact l2 a (by rw [e]; simp)
    have ip := is_picture_run n (rowsOf t) (wid t) 16 rne (by unfold rowsOf; simp; omega) (fun r hr => by
      obtain ⟨p, hp, rfl⟩ := List.mem_map.mp hr
      rw [rowOf_len]
      exact (all p hp).2) w1 (by omega) (fun r hr => by
      obtain ⟨p, hp, rfl⟩ := List.mem_map.mp hr
      exact okRow_lt (all p hp).1) []
    have ipc : pcall (run Ga (n + 2)) "is_picture" [.ref s.length, .d (.int 16)] (stF s (rowsOf t)) = .ok (.bool (decide ((rowsOf t).length ≤ 300) && decide (wid t ≤ 300))) (stF s (rowsOf t)) :=
      pcall_st (xs := [picD (rowsOf t), .int 16]) (by
        rw [List.mapM_cons, stF_stands0 s (rowsOf t) 4]
        rfl) ip rfl
    have rl : (rowsOf t).length = (lines t).length := by simp [rowsOf]
    rw [rl] at ipc
    have e' : forLoop _ _ _ _ = SR.ok Cr.Flow.next _ (stF s (rowsOf t)) := e
    simp only [rpBody, b_read_picture] at e'
    by_cases hc : (lines t).length ≤ 300 ∧ wid t ≤ 300
    · rw [if_pos hc]
      show run Ga (n + 3) "read_picture" [.d (.str t)] s = .ok (.ref s.length) (stF s (rowsOf t))
      rw [run_fn f_rp rfl]
      simp [b_read_picture, lo, el]
      rw [e']
      simp [g_ML]
      rw [exM_bind ipc]
      simp [hc.1, hc.2]
    · rw [if_neg hc]
      refine ⟨stF s (rowsOf t), ?_⟩
      rw [run_fn f_rp rfl]
      simp [b_read_picture, lo, el]
      rw [e']
      simp [g_ML]
      rw [exM_bind ipc]
      have : ((decide ((lines t).length ≤ 300) && decide (wid t ≤ 300))) = false := by
        rw [Bool.and_eq_false_iff]
        by_cases a : (lines t).length ≤ 300
        · exact .inr (decide_eq_false fun b => hc ⟨a, b⟩)
        · exact .inl (decide_eq_false a)
      simp [this, unD]
end K78

namespace K78
open Cr PySem
theorem f_lt : Ga.fn "_law_told" = some b_law_told := by kernel_rfl
theorem f_lrd : Ga.fn "_law_read" = some b_law_read := by kernel_rfl
def RAISED : T := [114, 97, 105, 115, 101, 100]
def rdV : Rd → D
  | .rows r => picD r
  | .bad k => .tup [.str RAISED, .int k]
theorem catch_line (k : Int) (a b : Option W) (c : Option W) (s : Store) : catchS "BadLine" 2 (.tup [.con (.str [114, 97, 105, 115, 101, 100]), .fld "line"]) "BadLine" (some ("line", .int k)) [a, b, c] s = .ok (.ret (.d (.tup [.str RAISED, .int k]))) [a, b, c] s := by
  simp [catchS, hxD, hxDs, fits_of, RAISED]
theorem told0_run (n : Nat) (t : T) (h : t.length ≤ 100000) : pcall (run Ga (n + 4)) "_law_told" [.d (.int 0), .d (.str t)] = M.pure (rdV (readP t)) := by
  have q := read_picture_run n t h []
  have go : run Ga (n + 4) "_law_told" [.d (.int 0), .d (.str t)] [] = .ok (.d (rdV (readP t))) [] := by
    rw [run_fn f_lt rfl]
    cases hr : readP t with
    | rows r =>
      rw [hr] at q
      have pc : pcall (run Ga (n + 3)) "read_picture" [.d (.str t)] = M.pure (picD r) := pcall_ref (xs := [.str t]) q (stF_stands0 [] r 4)
      simp [b_law_told, pc, rdV]
    | bad k =>
      rw [hr] at q
      obtain ⟨st, q⟩ := q
      have pc := pcall_exc (xs := [.str t]) q []
      have pc : pcall (run Ga (n + 3)) "read_picture" [.d (.str t)] [] = .exc "BadLine" (some ("line", .int k)) [] := pc
      simp [b_law_told]
      rw [exM_bind_exc pc]
      simp [catch_line, rdV]
  exact pcall2 go
/-- the number of a sign, -1 for others -/
def fnd (c : Nat) : Int := if c ∈ LV then (LV.idxOf c : Int) else -1
theorem find_LV (c : Nat) : mtD .find (.str LV) [.str [c]] = some (.int (fnd c)) := by
  simp [mtD, mt1D, fnd]
theorem fnd_row {t : T} (h : t.all (fun c => decide (c ∈ LV)) = true) : t.map fnd = (rowOf t).map fun (v : Nat) => (v : Int) := by
  unfold rowOf
  rw [List.map_map]
  refine List.map_congr_left fun c hc => ?_
  have := of_decide_eq_true (List.all_eq_true.mp h c hc)
  simp [fnd, this]
def lrBody : List S := match b_law_read.body with
  | [_, _, .for _ _ b, _, _] => b
  | _ => []
theorem minus1 (t : T) : cmpD .In (.int (-1)) (.list (t.map fun c => .int (fnd c))) = some (!t.all fun c => decide (c ∈ LV)) := by
  rw [in_flat rfl (by rw [List.all_map]; exact List.all_eq_true.mpr fun _ _ => rfl) (fun c h => by cases h)]
  congr 1
  rw [List.any_map, List.not_all_eq_any_not]
  congr 1
  funext c
  show (fnd c == (-1 : Int)) = !decide (c ∈ LV)
  unfold fnd
  by_cases e : c ∈ LV
  · simp [e]
  · simp [e]
theorem good_ints (xs : List Int) : (xs.map D.int).all (D.good 1) = true := by
  rw [List.all_map]
  exact List.all_eq_true.mpr fun _ _ => rfl
theorem un_m1 : unD .USub (.int 1) = some (.int (-1)) := rfl
theorem lr_rest (n : Nat) (q : W) (ls : List T) (p0 : T) (A : List D) (k w : Nat) (R : List D) (b0 b1 : Bool) (z : Option W) (hne : cmpD .Eq (.list R) (.list []) = some b0) (hm : cmpD .In (.int (-1)) (.list R) = some b1) (ix0 : idxD (.list (ls.map .str)) (.int 0) = some (.str p0)) (f0 : fits p0.length = true) (w0 : p0.length = w) (hl : A.length < 16777216) :
    evSs (run Ga n) Ga.gl (lrBody.drop 1) [some q, some (.d (.list (ls.map .str))), some (.ref 0), some (.d (.int (k : Int))), some (.d (.list R)), z] [dl A] =
      if b0 || (b1 || !decide (R.length = w)) then .ok (.ret (.d (rdV (.bad (k : Int))))) [some q, some (.d (.list (ls.map .str))), some (.ref 0), some (.d (.int (k : Int))), some (.d (.list R)), z] [dl A]
      else .ok .next [some q, some (.d (.list (ls.map .str))), some (.ref 0), some (.d (.int (k : Int))), some (.d (.list R)), z] [dl (A ++ [.list R])] := by
  cases b0 with
  | true => simp [lrBody, b_law_read, hne, rdV, RAISED]
  | false =>
    cases b1 with
    | true => simp [lrBody, b_law_read, hne, hm, un_m1, rdV, RAISED]
    | false =>
      by_cases e : R.length = w
      · simp [lrBody, b_law_read, hne, hm, un_m1, ix0, len_str f0, w0, e, hl]
      · have e' : ¬ (R.length : Int) = (w : Int) := by omega
        simp [lrBody, b_law_read, hne, hm, un_m1, ix0, len_str f0, w0, e, e', hl, rdV, RAISED]
theorem okRow_iff (p : T) (w : Nat) : (p.isEmpty || (!p.all (fun c => decide (c ∈ LV)) || !decide (p.length = w))) = !(okRow p && decide (p.length = w)) := by
  unfold okRow
  cases p.isEmpty <;> cases p.all (fun c => decide (c ∈ LV)) <;> cases decide (p.length = w) <;> rfl
theorem lr_step (n : Nat) (q : W) (ls : List T) (acc : List (List Nat)) (k : Nat) (w : Nat) (p : T) (x y z : Option W) (hk : ls[k]? = some p) (h0 : ∀ p0, ls.head? = some p0 → p0.length = w) (hs : ∀ p ∈ ls, p.length ≤ 1000000) (hl : acc.length < 1000000) :
    if okRow p && decide (p.length = w) then ∃ y' z', forBody (.name 3) (evSs (run Ga n) Ga.gl lrBody) (.int (k : Int)) [some q, some (.d (.list (ls.map .str))), some (.ref 0), x, y, z] [dl (acc.map rowD)] =
        .ok .next [some q, some (.d (.list (ls.map .str))), some (.ref 0), some (.d (.int (k : Int))), y', z'] [dl ((acc ++ [rowOf p]).map rowD)]
      else ∃ ρ st, forBody (.name 3) (evSs (run Ga n) Ga.gl lrBody) (.int (k : Int)) [some q, some (.d (.list (ls.map .str))), some (.ref 0), x, y, z] [dl (acc.map rowD)] = .ok (.ret (.d (rdV (.bad (k : Int))))) ρ st := by
  have hp := hs p (List.mem_of_getElem? hk)
  have f1 : fits p.length = true := fits_of (by omega)
  have ix : idxD (.list (ls.map .str)) (.int (k : Int)) = some (.str p) := idx_listE (by rw [List.getElem?_map, hk]; rfl)
  obtain ⟨p0, rest, el⟩ : ∃ p0 rest, ls = p0 :: rest := by
    cases ls with
    | nil => simp at hk
    | cons a b => exact ⟨a, b, rfl⟩
  have f0 : fits p0.length = true := fits_of (by have := hs p0 (by rw [el]; simp); omega)
  have ix0 : idxD (.list (ls.map .str)) (.int 0) = some (.str p0) := by rw [el]; exact idx_listE (j := 0) rfl
  have w0 : p0.length = w := h0 p0 (by rw [el]; rfl)
  have lc : lcLoop (lcBody (.name 5) (sems (run Ga n) Ga.gl []) (sem (run Ga n) Ga.gl (.mt false .find (.con (.str LV)) [.var 5])) (wipeE [some q, some (.d (.list (ls.map .str))), some (.ref 0), some (.d (.int (k : Int))), y, z] [5])) (p.map fun c => .str [c]) [] = M.pure (p.map fun c => .int (fnd c)) := by
    rw [lc_str (fun c => some (.int (fnd c))) (fun c _ => by simp [lcBody_eq, find_LV]) (by omega)]
    simp
  have hne : cmpD .Eq (.list (p.map fun c => D.int (fnd c))) (.list []) = some p.isEmpty := by
    rw [eq_nilE (n := 1) (by decide) (by have := good_ints (p.map fnd); rwa [List.map_map] at this)]
    rw [List.isEmpty_map]
  have hm := minus1 p
  have body : lrBody = .asg (.name 4) (.lc false (.mt false .find (.con (.str LV)) [.var 5]) (.name 5) (.idx (.var 1) (.var 3)) [] [5]) :: lrBody.drop 1 := rfl
  have rst := lr_rest n q ls p0 (acc.map rowD) k w (p.map fun c => D.int (fnd c)) p.isEmpty _ z hne hm ix0 f0 w0 (by simp; omega)
  rw [List.length_map, okRow_iff] at rst
  unfold forBody
  simp only [bindPt_name, setVar_s, setVar_0]
  rw [body, step_asg (lc_v (xs := p.map fun c => .str [c]) (by simp [ix, walk_str f1]) lc)]
  simp only [setVar_s, setVar_0]
  rw [rst]
  cases e : okRow p && decide (p.length = w) with
  | true =>
    have a1 := ((Bool.and_eq_true _ _).mp ((Bool.and_eq_true _ _).mp e).1).2
    refine ⟨some (.d (.list (p.map fun c => .int (fnd c)))), z, ?_⟩
    rw [if_neg (by decide)]
    have rw_ : (D.list (p.map fun c => D.int (fnd c))) = rowD (rowOf p) := by
      show D.list _ = D.list ((rowOf p).map fun (v : Nat) => D.int (v : Int))
      congr 1
      have := congrArg (List.map D.int) (fnd_row a1)
      rw [List.map_map, List.map_map] at this
      exact this
    rw [rw_, List.map_append]
    rfl
  | false => exact ⟨_, _, rfl⟩
theorem lr_loop (n : Nat) (q : W) (ls : List T) (w : Nat) (h0 : ∀ p0, ls.head? = some p0 → p0.length = w) (hs : ∀ p ∈ ls, p.length ≤ 1000000) (hn : ls.length ≤ 1000000) : ∀ (ps : List T) (acc : List (List Nat)) (x y z : Option W), ls.drop acc.length = ps → acc.length ≤ ls.length →
    match firstBad w acc.length ps with
    | none => ∃ x' y' z', forLoop (forBody (.name 3) (evSs (run Ga n) Ga.gl lrBody)) ((List.range' acc.length ps.length).map nD) [some q, some (.d (.list (ls.map .str))), some (.ref 0), x, y, z] [dl (acc.map rowD)] = .ok .next [some q, some (.d (.list (ls.map .str))), some (.ref 0), x', y', z'] [dl ((acc ++ ps.map rowOf).map rowD)]
    | some k => ∃ ρ st, forLoop (forBody (.name 3) (evSs (run Ga n) Ga.gl lrBody)) ((List.range' acc.length ps.length).map nD) [some q, some (.d (.list (ls.map .str))), some (.ref 0), x, y, z] [dl (acc.map rowD)] = .ok (.ret (.d (rdV (.bad (k : Int))))) ρ st
  | [], acc, x, y, z, _, _ => ⟨x, y, z, by simp [forLoop]⟩
  | p :: ps, acc, x, y, z, hd, ha => by
    have hk : ls[acc.length]? = some p := by
      have := congrArg (fun l => l[0]?) hd
      simpa using this
    have lt : acc.length < ls.length := (List.getElem?_eq_some_iff.mp hk).1
    have st := lr_step n q ls acc acc.length w p x y z hk h0 hs (by omega)
    rw [List.length_cons, List.range'_succ, List.map_cons]
    unfold firstBad
    by_cases e : (okRow p && decide (p.length = w)) = true
    · rw [if_pos e] at st
      rw [if_pos e]
      obtain ⟨y1, z1, st⟩ := st
      have ih := lr_loop n q ls w h0 hs hn ps (acc ++ [rowOf p]) (some (.d (.int (acc.length : Int)))) y1 z1 (by
        rw [List.length_append, List.length_singleton, ← List.drop_drop, hd]
        rfl) (by simp; omega)
      have el : (acc ++ [rowOf p]).length = acc.length + 1 := by simp
      rw [el] at ih
      rw [forLoop, st]
      cases hb : firstBad w (acc.length + 1) ps with
      | none =>
        rw [hb] at ih
        obtain ⟨x', y', z', e2⟩ := ih
        refine ⟨x', y', z', ?_⟩
        show forLoop _ _ _ _ = _
        rw [e2, List.append_assoc]
        rfl
      | some k =>
        rw [hb] at ih
        exact ih
    · rw [if_neg e] at st
      rw [if_neg e]
      obtain ⟨ρ, s2, e2⟩ := st
      refine ⟨ρ, s2, ?_⟩
      rw [forLoop, e2]
theorem law_read_run (n : Nat) (t : T) (h : t.length ≤ 100000) : pcall (run Ga (n + 1)) "_law_read" [.d (.str t)] = M.pure (rdV (readP t)) := by
  obtain ⟨l1, l2⟩ := lines_len h
  have ne : lines t ≠ [] := split_ne 10 t
  have sp : mtD .split (.str t) [.str [10]] = some (.list ((lines t).map .str)) := split_E (by decide) (by omega)
  have hd : ∀ p0, (lines t).head? = some p0 → p0.length = wid t := fun p hp => by
    unfold wid
    cases e : lines t with
    | nil => rw [e] at hp; cases hp
    | cons a b =>
      rw [e] at hp
      cases hp
      rfl
  obtain ⟨p0, rest, el⟩ : ∃ p0 rest, lines t = p0 :: rest := by
    cases e : lines t with
    | nil => exact absurd e ne
    | cons a b => exact ⟨a, b, rfl⟩
  have f0 : fits p0.length = true := fits_of (by have := l2 p0 (by rw [el]; simp); omega)
  have ix0 : idxD (.list ((lines t).map .str)) (.int 0) = some (.str p0) := by rw [el]; exact idx_listE (j := 0) rfl
  have w0 : p0.length = wid t := hd p0 (by rw [el]; rfl)
  have lp := lr_loop n (.d (.str t)) (lines t) (wid t) hd (fun p hp => by have := l2 p hp; omega) (by omega) (lines t) [] none none none rfl (by simp)
  have rg : rangeD [.int ((lines t).length : Int)] = some ((List.range' 0 (lines t).length).map nD) := by
    rw [range1' (by omega), List.range_eq_range']
  unfold readP
  have l0 : ([] : List (List Nat)).length = 0 := rfl
  rw [l0] at lp
  have dn : [dl (([] : List (List Nat)).map rowD)] = [dl []] := rfl
  rw [dn] at lp
  simp only [lrBody, b_law_read, LVc] at lp
  cases hb : firstBad (wid t) 0 (lines t) with
  | some k =>
    rw [hb] at lp
    obtain ⟨ρ, st, e⟩ := lp
    have go : run Ga (n + 1) "_law_read" [.d (.str t)] [] = .ok (.d (rdV (.bad k))) st := by
      rw [run_fn f_lrd rfl]
      simp only [b_law_read, LVc]
      simp [sp, rg, -range1_E]
      rw [e]
      simp
    exact pcall1 go
  | none =>
    rw [hb] at lp
    obtain ⟨x, y, z, e⟩ := lp
    have e : forLoop _ _ _ _ = SR.ok Cr.Flow.next _ [dl ((rowsOf t).map rowD)] := e
    by_cases hc : (lines t).length ≤ 300 ∧ wid t ≤ 300
    · rw [if_pos hc]
      have c1 : ¬ (300 : Int) < ((lines t).length : Int) := by omega
      have c2 : ¬ (300 : Int) < (wid t : Int) := by omega
      have go : run Ga (n + 1) "_law_read" [.d (.str t)] [] = .ok (.ref 0) [dl ((rowsOf t).map rowD)] := by
        rw [run_fn f_lrd rfl]
        simp only [b_law_read, LVc]
        simp [sp, rg, -range1_E]
        rw [e]
        simp [c1, ix0, len_str f0, w0, c2]
      exact pcall_ds (xs := [.str t]) go (freeze_dl rfl)
    · rw [if_neg hc]
      have c1 : (300 : Int) < ((lines t).length : Int) ∨ (300 : Int) < (wid t : Int) := by omega
      have go : run Ga (n + 1) "_law_read" [.d (.str t)] [] = .ok (.d (rdV (.bad (-1)))) [dl ((rowsOf t).map rowD)] := by
        rw [run_fn f_lrd rfl]
        simp only [b_law_read, LVc]
        simp [sp, rg, -range1_E]
        rw [e]
        by_cases c2 : (300 : Int) < ((lines t).length : Int)
        · simp [c2, un_m1, rdV, RAISED]
        · have c3 : (300 : Int) < (wid t : Int) := by omega
          simp [c2, ix0, len_str f0, w0, c3, un_m1, rdV, RAISED]
      exact pcall1 go
end K78

namespace K78
open Cr PySem
theorem f_ur : Ga.fn "unpacked_row" = some b_unpacked_row := by kernel_rfl
theorem f_lu : Ga.fn "_law_unpacked" = some b_law_unpacked := by kernel_rfl
abbrev dv (p : T) : Nat := NumText.digitsVal p
def iv (p : T) : Int := (intText? ⟨p.toArray⟩).getD 0
def runOk (p : T) : Bool := !p.isEmpty && (decide (p.length ≤ 3) && (p.all dig && !(decide (p.head? = some 48) && !decide (p = [48]))))
theorem digs {p : T} (h : p.all dig = true) : NumText.AllDigits p := fun c hc => dig_iff.mp (List.all_eq_true.mp h c hc)
theorem dv_fold : ∀ (cs : List Nat) (a : Nat), NumText.AllDigits cs → a * 10 ^ cs.length ≤ cs.foldl (fun acc c => acc * 10 + (c - 48)) a
  | [], a, _ => by simp
  | c :: cs, a, h => by
    have ih := dv_fold cs (a * 10 + (c - 48)) (fun d hd => h d (by simp [hd]))
    rw [List.foldl_cons, List.length_cons, Nat.pow_succ]
    refine Nat.le_trans ?_ ih
    rw [Nat.mul_comm (10 ^ cs.length) 10, ← Nat.mul_assoc]
    exact Nat.mul_le_mul_right _ (by omega)
theorem dv_ge {c : Nat} {r : T} (h : NumText.AllDigits (c :: r)) (hc : c ≠ 48) : 10 ^ r.length ≤ dv (c :: r) := by
  have h0 := h c (by simp)
  have := dv_fold r (0 * 10 + (c - 48)) (fun d hd => h d (by simp [hd]))
  refine Nat.le_trans ?_ (show (0 * 10 + (c - 48)) * 10 ^ r.length ≤ dv (c :: r) from this)
  have : 1 ≤ 0 * 10 + (c - 48) := by omega
  calc 10 ^ r.length = 1 * 10 ^ r.length := by rw [Nat.one_mul]
    _ ≤ _ := Nat.mul_le_mul_right _ this
theorem iv_digits {p : T} (h : p.all dig = true) (h1 : p ≠ []) (h2 : p.length ≤ 4300) : intText? ⟨p.toArray⟩ = some ((dv p : Nat) : Int) :=
  intText_digits (x := ⟨p.toArray⟩) (digs h) h1 (by rw [SX_len]; exact h2)
theorem okW_cases {p : T} (h : okW p = true) : iv p < 0 ∨ (p.all dig = true ∧ p ≠ [] ∧ p.length ≤ 41 ∧ iv p = (dv p : Nat) ∧ (p.head? = some 48 → p = [48])) := by
  unfold okW at h
  obtain ⟨h1, h2⟩ := (Bool.and_eq_true _ _).mp h
  unfold okL at h1
  obtain ⟨h1, h5⟩ := (Bool.and_eq_true _ _).mp h1
  obtain ⟨h3, h4⟩ := (Bool.and_eq_true _ _).mp h1
  have h3 := of_decide_eq_true h3
  have h4 := of_decide_eq_true h4
  by_cases e : p.take 1 = [45]
  · have hp : plain p = p.tail := by simp [plain, e]
    rw [hp] at h2 h3 h4 h5
    obtain ⟨q, rfl⟩ : ∃ q, p = 45 :: q := by
      cases p with
      | nil => cases e
      | cons c q =>
        have : c = 45 := by simpa using e
        exact ⟨q, by rw [this]⟩
    rw [List.tail_cons] at h2 h3 h4 h5
    have qn : q ≠ [] := by intro z; rw [z] at h3; simp at h3
    have val := intText_neg (x := ⟨(45 :: q).toArray⟩) (cs := q) rfl (digs h5) qn (by rw [SX_len]; simp; omega)
    have pos : 1 ≤ dv q := by
      cases q with
      | nil => exact absurd rfl qn
      | cons c r =>
        have c48 : c ≠ 48 := by
          intro z
          subst z
          simp at h2
        refine Nat.le_trans ?_ (dv_ge (digs h5) c48)
        exact Nat.pow_pos (by decide)
    left
    unfold iv
    rw [val]
    show -((dv q : Nat) : Int) < 0
    omega
  · have hp : plain p = p := by simp [plain, e]
    rw [hp] at h2 h3 h4 h5
    have pn : p ≠ [] := by intro z; rw [z] at h3; simp at h3
    right
    refine ⟨h5, pn, by omega, ?_, fun z => ?_⟩
    · unfold iv
      rw [iv_digits h5 pn (by omega)]
      rfl
    · simp [z] at h2
      exact h2
theorem runOk_of {p : T} (h : okW p = true) (h0 : 0 ≤ iv p) (h1 : iv p ≤ 999) : runOk p = true ∧ iv p = (dv p : Nat) := by
  rcases okW_cases h with c | ⟨a, b, c, d, e⟩
  · omega
  · refine ⟨?_, d⟩
    have l3 : p.length ≤ 3 := by
      cases p with
      | nil => exact absurd rfl b
      | cons x r =>
        by_cases x48 : x = 48
        · have := e (by rw [x48]; rfl)
          rw [this]
          decide
        · have := dv_ge (digs a) x48
          have lt : dv (x :: r) < 1000 := by omega
          have : r.length < 3 := by
            refine Classical.byContradiction fun z => ?_
            have : 10 ^ 3 ≤ 10 ^ r.length := Nat.pow_le_pow_right (by decide) (by omega)
            omega
          simp
          omega
    have ne : p.isEmpty = false := by simpa using b
    unfold runOk
    rw [ne, decide_eq_true l3, a]
    by_cases z : p.head? = some 48
    · rw [e z]
      rfl
    · rw [decide_eq_false z]
      rfl
theorem okW_of {p : T} (h : runOk p = true) : okW p = true ∧ p.all dig = true ∧ p ≠ [] ∧ p.length ≤ 3 ∧ iv p = (dv p : Nat) := by
  unfold runOk at h
  obtain ⟨h1, h⟩ := (Bool.and_eq_true _ _).mp h
  obtain ⟨h2, h⟩ := (Bool.and_eq_true _ _).mp h
  obtain ⟨h3, h4⟩ := (Bool.and_eq_true _ _).mp h
  have h2 := of_decide_eq_true h2
  have ne : p ≠ [] := by simpa using h1
  have l1 : 1 ≤ p.length := by
    cases p with
    | nil => exact absurd rfl ne
    | cons _ _ => simp
  have hp : plain p = p := by
    unfold plain
    rw [if_neg]
    intro e
    cases p with
    | nil => cases e
    | cons c q =>
      have c45 : c = 45 := by simpa using e
      have := dig_iff.mp (List.all_eq_true.mp h3 c (by simp))
      omega
  refine ⟨?_, h3, ne, h2, ?_⟩
  · unfold okW okL
    rw [hp, h3, decide_eq_true l1, decide_eq_true (show p.length ≤ 40 by omega)]
    exact h4
  · unfold iv
    rw [iv_digits h3 ne (by omega)]
    rfl
/-- the row that runs tell, from the run k on -/
def rowU : Nat → List T → List Nat
  | _, [] => []
  | k, p :: ps => List.replicate (dv p) (k % 2) ++ rowU (k + 1) ps
def runsOk (ps : List T) : Bool := ps.all runOk && ps.tail.all (fun p => decide (1 ≤ dv p))
def parts (l : T) : List T := splitC [32] l
/-- a packed line's row -/
def upk (l : T) : Option (List Nat) := if runsOk (parts l) && (decide (1 ≤ (rowU 0 (parts l)).length) && decide ((rowU 0 (parts l)).length ≤ 300)) then some (rowU 0 (parts l)) else none
theorem rowU_len : ∀ (k : Nat) (ps : List T), (rowU k ps).length = (ps.map dv).sum
  | _, [] => rfl
  | k, p :: ps => by simp [rowU, rowU_len (k + 1) ps]
theorem intsL_map (f : T → Int) : ∀ ps : List T, intsL (ps.map fun p => .int (f p)) = some (ps.map f)
  | [] => rfl
  | p :: ps => by simp [intsL, intsL_map f ps]
theorem sum_cast : ∀ (ps : List T), (∀ p ∈ ps, iv p = (dv p : Nat)) → (ps.map iv).sum = ((ps.map dv).sum : Nat)
  | [], _ => rfl
  | p :: ps, h => by
    rw [List.map_cons, List.sum_cons, List.map_cons, List.sum_cons, h p (by simp), sum_cast ps fun q hq => h q (by simp [hq])]
    omega
theorem sum_ge : ∀ (ps : List T), (∀ p ∈ ps, 0 ≤ iv p) → 0 ≤ (ps.map iv).sum ∧ ∀ p ∈ ps, iv p ≤ (ps.map iv).sum
  | [], _ => ⟨by simp, fun p hp => by cases hp⟩
  | p :: ps, h => by
    obtain ⟨a, b⟩ := sum_ge ps fun q hq => h q (by simp [hq])
    have := h p (by simp)
    rw [List.map_cons, List.sum_cons]
    refine ⟨by omega, fun q hq => ?_⟩
    rcases List.mem_cons.mp hq with rfl | hq
    · omega
    · have := b q hq
      omega
/-- the reader's test is the law's -/
theorem test_eq {p0 : T} {ps : List T} (hok : ∀ p ∈ p0 :: ps, okW p = true) : (decide (iv p0 < 0) || (!(ps.all fun p => decide (1 ≤ iv p)) || !(decide (1 ≤ ((p0 :: ps).map iv).sum) && decide (((p0 :: ps).map iv).sum ≤ 300)))) =
    !(runsOk (p0 :: ps) && (decide (1 ≤ (rowU 0 (p0 :: ps)).length) && decide ((rowU 0 (p0 :: ps)).length ≤ 300))) := by
  rw [rowU_len]
  by_cases h0 : iv p0 < 0
  · have : runOk p0 = false := by
      cases r : runOk p0 with
      | false => rfl
      | true =>
        have := (okW_of r).2.2.2.2
        omega
    simp [h0, runsOk, this]
  · by_cases h1 : ps.all (fun p => decide (1 ≤ iv p)) = true
    · have nn : ∀ p ∈ p0 :: ps, 0 ≤ iv p := fun p hp => by
        rcases List.mem_cons.mp hp with rfl | hp
        · omega
        · have := of_decide_eq_true (List.all_eq_true.mp h1 p hp)
          omega
      have sg := sum_ge (p0 :: ps) nn
      by_cases h2 : ((p0 :: ps).map iv).sum ≤ 300
      · have all : ∀ p ∈ p0 :: ps, runOk p = true ∧ iv p = (dv p : Nat) := fun p hp => runOk_of (hok p hp) (nn p hp) (by have := sg.2 p hp; omega)
        have sc := sum_cast (p0 :: ps) fun p hp => (all p hp).2
        have r1 : (p0 :: ps).all runOk = true := List.all_eq_true.mpr fun p hp => (all p hp).1
        have r2 : ps.all (fun p => decide (1 ≤ dv p)) = true := List.all_eq_true.mpr fun p hp => by
          have := of_decide_eq_true (List.all_eq_true.mp h1 p hp)
          have := (all p (by simp [hp])).2
          exact decide_eq_true (by omega)
        unfold runsOk
        rw [List.tail_cons, r1, r2, h1, decide_eq_false h0, sc]
        have c1 : decide ((1 : Int) ≤ (((p0 :: ps).map dv).sum : Nat)) = decide (1 ≤ ((p0 :: ps).map dv).sum) := by
          by_cases q : 1 ≤ ((p0 :: ps).map dv).sum
          · rw [decide_eq_true q, decide_eq_true (by omega)]
          · rw [decide_eq_false q, decide_eq_false (by omega)]
        have c2 : decide ((((p0 :: ps).map dv).sum : Int) ≤ 300) = decide (((p0 :: ps).map dv).sum ≤ 300) := by
          by_cases q : ((p0 :: ps).map dv).sum ≤ 300
          · rw [decide_eq_true q, decide_eq_true (by omega)]
          · rw [decide_eq_false q, decide_eq_false (by omega)]
        rw [c1, c2]
        simp
      · have : (runsOk (p0 :: ps) && (decide (1 ≤ ((p0 :: ps).map dv).sum) && decide (((p0 :: ps).map dv).sum ≤ 300))) = false := by
          cases r : runsOk (p0 :: ps) with
          | false => rfl
          | true =>
            have r1 := ((Bool.and_eq_true _ _).mp r).1
            have sc := sum_cast (p0 :: ps) fun p hp => (okW_of (List.all_eq_true.mp r1 p hp)).2.2.2.2
            rw [sc] at h2
            have : ¬ ((p0 :: ps).map dv).sum ≤ 300 := by omega
            rw [decide_eq_false this]
            simp
        rw [this, decide_eq_false h2]
        simp
    · have : runsOk (p0 :: ps) = false := by
        cases r : runsOk (p0 :: ps) with
        | false => rfl
        | true =>
          obtain ⟨r1, r2⟩ := (Bool.and_eq_true _ _).mp r
          refine absurd (List.all_eq_true.mpr fun p hp => ?_) h1
          have a := (okW_of (List.all_eq_true.mp r1 p (by simp [hp]))).2.2.2.2
          have b := of_decide_eq_true (List.all_eq_true.mp r2 p hp)
          exact decide_eq_true (by omega)
      rw [this, Bool.eq_false_iff.mpr h1]
      simp
def badW (t : T) : Bool := (parts t).any fun p => !okW p
theorem valW_flat (t : T) : (valW t).flat = true := by
  unfold valW
  split <;> rfl
theorem valW_non (t : T) : eqF (valW t) .non = !okW t := by
  unfold valW
  split
  · rename_i h; rw [h]; rfl
  · rename_i h; rw [Bool.eq_false_iff.mpr h]; rfl
theorem none_in (t : T) : cmpD .In .non (.list ((parts t).map valW)) = some (badW t) := by
  rw [in_flat rfl (by rw [List.all_map]; exact List.all_eq_true.mpr fun p _ => valW_flat p) (fun c h => by cases h)]
  unfold badW
  rw [List.any_map]
  congr 2
  funext p
  exact valW_non p
theorem valW_ok {p : T} (h : okW p = true) : valW p = .int (iv p) := by
  unfold valW
  rw [if_pos h]
  rfl
theorem badW_upk {t : T} (h : badW t = true) : upk t = none := by
  obtain ⟨p, hp, e⟩ := List.any_eq_true.mp h
  have e : okW p = false := by simpa using e
  have : runsOk (parts t) = false := by
    cases r : runsOk (parts t) with
    | false => rfl
    | true =>
      have := (okW_of (List.all_eq_true.mp ((Bool.and_eq_true _ _).mp r).1 p hp)).1
      rw [e] at this
      cases this
  simp [upk, this]
theorem mod2N (k : Nat) : binD .Mod (.int (k : Int)) (.int 2) = some (.int ((k % 2 : Nat) : Int)) := by
  rw [mod_int' (by decide)]
  rfl
theorem rep_one (x : D) : ∀ m : Nat, (List.replicate m [x]).flatten = List.replicate m x
  | 0 => rfl
  | m + 1 => by rw [List.replicate_succ, List.flatten_cons, rep_one x m]; rfl
theorem rep_N (x m : Nat) (h : m ≤ 1000000) : binD .Mult (.list [.int (x : Int)]) (.int (m : Int)) = some (.list ((List.replicate m x).map nD)) := by
  simp only [binD, Int.toNat_natCast, rep_one]
  have h1 : fits ([D.int (x : Int)].length * m) = true := fits_of (by simp; omega)
  have h2 : decide (-(2 ^ 63) ≤ (m : Int) ∧ (m : Int) < 2 ^ 63) = true := decide_eq_true (by omega)
  rw [h1, h2, List.map_replicate]
  simp
def urBody : List S := match b_unpacked_row.body with
  | [_, _, _, .for _ _ b, _] => b
  | _ => []
def enumV (k : Nat) (ps : List T) : List D := (ps.zipIdx k).map fun p => .tup [.int (p.2 : Int), .int (dv p.1 : Int)]
theorem enumV_cons (k : Nat) (p : T) (ps : List T) : enumV k (p :: ps) = .tup [.int (k : Int), .int (dv p : Int)] :: enumV (k + 1) ps := by
  simp [enumV]
theorem app_set (s : Store) (c d : Cell) : (s ++ [c]).set s.length d = s ++ [d] := by
  rw [List.set_append_right _ _ (Nat.le_refl _), Nat.sub_self]
  rfl
theorem app_get (s : Store) (c : Cell) : (s ++ [c])[s.length]? = some c := by
  rw [List.getElem?_append_right (Nat.le_refl _), Nat.sub_self]
  rfl
theorem ur_loop (n : Nat) (a b : W) (s : Store) : ∀ (ps : List T) (k : Nat) (acc : List Nat) (x y z : Option W), acc.length + (rowU k ps).length ≤ 1000000 →
    ∃ x' y', forLoop (forBody (.tup [.name 3, .name 4]) (evSs (run Ga n) Ga.gl urBody)) (enumV k ps) [some a, some b, some (.ref s.length), x, y, z] (s ++ [dl (acc.map nD)]) = .ok .next [some a, some b, some (.ref s.length), x', y', z] (s ++ [dl ((acc ++ rowU k ps).map nD)])
  | [], k, acc, x, y, z, _ => ⟨x, y, by simp [enumV, forLoop, rowU]⟩
  | p :: ps, k, acc, x, y, z, hl => by
    have hl : acc.length + (List.replicate (dv p) (k % 2) ++ rowU (k + 1) ps).length ≤ 1000000 := hl
    rw [List.length_append, List.length_replicate] at hl
    have m2 := mod2N k
    have rp := rep_N (k % 2) (dv p) (by omega)
    have e : forBody (.tup [.name 3, .name 4]) (evSs (run Ga n) Ga.gl urBody) (.tup [.int (k : Int), .int (dv p : Int)]) [some a, some b, some (.ref s.length), x, y, z] (s ++ [dl (acc.map nD)]) =
        .ok .next [some a, some b, some (.ref s.length), some (.d (.int (k : Int))), some (.d (.int (dv p : Int))), z] (s ++ [dl ((acc ++ List.replicate (dv p) (k % 2)).map nD)]) := by
      unfold forBody
      simp only [bindPt_tup, bindPts_cons, bindPts_nil, bindPt_name, Option.bind_some, setVar_s, setVar_0]
      generalize hd : dv p = m at rp ⊢
      generalize hk : k % 2 = k2 at m2 rp ⊢
      have lr : ((List.replicate m k2).map nD).length = m := by simp
      generalize hR : (List.replicate m k2).map nD = R at rp lr
      have ll : acc.length + R.length ≤ 16777216 := by omega
      simp [urBody, b_unpacked_row, m2, rp, app_get, ll, app_set, -List.map_replicate, hR]
    obtain ⟨x', y', e2⟩ := ur_loop n a b s ps (k + 1) (acc ++ List.replicate (dv p) (k % 2)) (some (.d (.int (k : Int)))) (some (.d (.int (dv p : Int)))) z (by simp; omega)
    refine ⟨x', y', ?_⟩
    rw [enumV_cons, forLoop, e]
    show forLoop _ _ _ _ = _
    rw [e2, List.append_assoc]
    rfl
theorem int_parts {ps : List T} (h : ∀ p ∈ ps, okW p = true) : ps.map valW = ps.map fun p => .int (iv p) := List.map_congr_left fun p hp => valW_ok (h p hp)
theorem enumL_V {ps : List T} (h : ∀ p ∈ ps, iv p = (dv p : Nat)) : enumL (ps.map fun p => .int (iv p)) = enumV 0 ps := by
  unfold enumL enumV
  rw [List.zipIdx_map, List.map_map]
  refine List.map_congr_left fun p hp => ?_
  have := h p.1 (by have := List.mem_zipIdx hp; rw [this.2.2]; exact List.getElem_mem _)
  simp [this]
theorem sum_parts (ps : List T) : biD .sum [.list (ps.map fun p => .int (iv p))] = some (.int (ps.map iv).sum) := by
  show (intsL _).map _ = _
  rw [intsL_map iv]
  rfl
theorem unpacked_row_run (n : Nat) (t : T) (h : t.length ≤ 100000) (s : Store) : run Ga (n + 2) "unpacked_row" [.d (.str t)] s = match upk t with
    | some r => .ok (.ref s.length) (s ++ [dl (r.map nD)])
    | none => .ok (.d .non) s := by
  have sp : mtD .split (.str t) [.str [32]] = some (.list ((parts t).map .str)) := split_E (by decide) (by omega)
  have pl : (parts t).length ≤ 100001 := by have := split_num 32 t; unfold parts; omega
  have lc : ∀ ρ : Cr.Env, lcLoop (lcBody (.name 5) [] (ofV fun ρ => M.bind (getVar 5 ρ) fun w => M.bind (pcall (run Ga (n + 1)) "read_whole" [w]) fun z => M.pure (.d z)) [some (.d (.str t)), none, none, none, none, none]) ((parts t).map .str) [] = M.pure ((parts t).map valW) := fun _ => lc_strs valW (fun p hp => by
    have := split_len hp
    simp [lcBody_eq, pcall1 (read_whole_run n p (by omega) [])]) (by omega)
  rw [run_fn f_ur rfl]
  cases hb : badW t with
  | true =>
    rw [badW_upk hb]
    have ni := none_in t
    rw [hb] at ni
    simp [b_unpacked_row, sp]
    rw [lc []]
    simp [ni]
  | false =>
    have hok : ∀ p ∈ parts t, okW p = true := fun p hp => by
      have := List.any_eq_false.mp hb p hp
      simpa using this
    have ni := none_in t
    rw [hb, int_parts hok] at ni
    have lc' := lc []
    rw [int_parts hok] at lc'
    obtain ⟨p0, ps, ep⟩ : ∃ p0 ps, parts t = p0 :: ps := by
      cases e : parts t with
      | nil => exact absurd e (split_ne 32 t)
      | cons a b => exact ⟨a, b, rfl⟩
    have te := test_eq (p0 := p0) (ps := ps) (by rw [← ep]; exact hok)
    rw [← ep] at te
    have i0 : idxD (.list ((parts t).map fun p => .int (iv p))) (.int 0) = some (.int (iv p0)) := by rw [ep]; exact idx_listE (j := 0) rfl
    have tl : ((parts t).map fun p => D.int (iv p)).tail = ps.map fun p => .int (iv p) := by rw [ep]; rfl
    have sm := sum_parts (parts t)
    have cut : sliceD (.list ((parts t).map fun p => .int (iv p))) (some 1) none = some (.list (ps.map fun p => .int (iv p))) := by
      rw [slice_listE, cut_drop1, List.drop_one, tl]
    have lc2 : ∀ {body : D → M (Option D)}, (∀ p : T, body (.int (iv p)) = M.pure (some (.bool (decide (1 ≤ iv p))))) → lcLoop body (ps.map fun p => .int (iv p)) [] = M.pure (ps.map fun p => .bool (decide (1 ≤ iv p))) := fun hb => lc_g (fun p => .int (iv p)) (fun p => .bool (decide (1 ≤ iv p))) (fun p _ => hb p) (by rw [ep] at pl; simp at pl; omega)
    have al := all_bools (fun p => decide (1 ≤ iv p)) ps
    have cond : ∀ ρ0 : Cr.Env, ρ0 = [some (.d (.str t)), some (.d (.list ((parts t).map fun p => .int (iv p)))), none, none, none, none] → (sem (run Ga (n + 1)) Ga.gl (match b_unpacked_row.body with | [_, .ite c _ _, _, _, _] => c | _ => .bad)).t ρ0 = M.pure (!(upk t).isSome) := fun ρ0 e0 => by
      subst e0
      have u : (upk t).isSome = (runsOk (parts t) && (decide (1 ≤ (rowU 0 (parts t)).length) && decide ((rowU 0 (parts t)).length ≤ 300))) := by
        unfold upk
        split
        · rename_i q; rw [q]; rfl
        · rename_i q; rw [Bool.eq_false_iff.mpr q]; rfl
      rw [u, ← te]
      simp [b_unpacked_row, ni, i0, cut, sm]
      by_cases c0 : iv p0 < 0
      · simp [c0]
      · simp [c0]
        rw [lc2 (fun p => by simp [lcBody_eq])]
        simp only [pure_bindM, al, lift_some, truth_bool]
    simp only [b_unpacked_row] at cond ⊢
    rw [step_asg (w := .d (.list ((parts t).map fun p => .int (iv p)))) (by
      simp [sp]
      rw [lc']
      simp)]
    simp only [setVar_s, setVar_0, startE_eq, List.map_cons, List.map_nil, List.cons_append, List.nil_append, List.length_cons, List.length_nil, Nat.reduceAdd, Nat.reduceSub, List.replicate]
    rw [evSs_cons, evS_ite, cond _ rfl, exM_pure]
    cases hu : upk t with
    | none => simp
    | some r =>
      unfold upk at hu
      split at hu
      · rename_i hc
        cases hu
        obtain ⟨c1, c2⟩ := (Bool.and_eq_true _ _).mp hc
        obtain ⟨_, c3⟩ := (Bool.and_eq_true _ _).mp c2
        have c3 := of_decide_eq_true c3
        have ra : ∀ p ∈ parts t, iv p = (dv p : Nat) := fun p hp => (okW_of (List.all_eq_true.mp ((Bool.and_eq_true _ _).mp c1).1 p hp)).2.2.2.2
        obtain ⟨x', y', e⟩ := ur_loop (n + 1) (.d (.str t)) (.d (.list ((parts t).map fun p => .int (iv p)))) s (parts t) 0 [] none none none (by simp; omega)
        rw [← enumL_V ra] at e
        simp only [urBody, b_unpacked_row] at e
        have e : forLoop _ _ _ (s ++ [dl []]) = _ := e
        simp
        rw [e]
        simp
      · cases hu
end K78

namespace K78
open Cr PySem
def luGo : Nat → List T → Option (List Nat)
  | _, [] => some []
  | k, p :: ps => if runOk p && (decide (k = 0) || decide (1 ≤ dv p)) then (luGo (k + 1) ps).map fun r => List.replicate (dv p) (k % 2) ++ r else none
theorem luGo_pos : ∀ (k : Nat) (ps : List T), 1 ≤ k → luGo k ps = if ps.all runOk && ps.all (fun p => decide (1 ≤ dv p)) then some (rowU k ps) else none
  | k, [], _ => rfl
  | k, p :: ps, h => by
    have k0 : decide (k = 0) = false := decide_eq_false (by omega)
    unfold luGo
    rw [luGo_pos (k + 1) ps (by omega), k0, List.all_cons, List.all_cons, Bool.false_or]
    cases runOk p <;> cases decide (1 ≤ dv p) <;> cases ps.all runOk <;> cases ps.all (fun p => decide (1 ≤ dv p)) <;> rfl
theorem luGo_0 (ps : List T) : luGo 0 ps = if runsOk ps then some (rowU 0 ps) else none := by
  cases ps with
  | nil => rfl
  | cons p ps =>
    unfold luGo runsOk
    rw [luGo_pos 1 ps (by omega), List.all_cons, List.tail_cons]
    cases runOk p <;> cases ps.all runOk <;> cases ps.all (fun p => decide (1 ≤ dv p)) <;> rfl
def luBody : List S := match b_law_unpacked.body with
  | [_, _, .for _ _ b, _] => b
  | _ => []
theorem digits_lt : ∀ (cs : List Nat) (a : Nat), NumText.AllDigits cs → cs.foldl (fun acc c => acc * 10 + (c - 48)) a < (a + 1) * 10 ^ cs.length
  | [], a, _ => by simp
  | c :: cs, a, h => by
    have hc := h c (by simp)
    have ih := digits_lt cs (a * 10 + (c - 48)) (fun d hd => h d (by simp [hd]))
    rw [List.foldl_cons, List.length_cons, Nat.pow_succ]
    refine Nat.lt_of_lt_of_le ih ?_
    rw [Nat.mul_comm (10 ^ cs.length) 10, ← Nat.mul_assoc]
    exact Nat.mul_le_mul_right _ (by omega)
theorem dv_lt {p : T} (h : p.all dig = true) (hl : p.length ≤ 3) : dv p ≤ 999 := by
  have d : dv p < (0 + 1) * 10 ^ p.length := by
    have := digits_lt p 0 (digs h)
    exact this
  have : 10 ^ p.length ≤ 10 ^ 3 := Nat.pow_le_pow_right (by decide) hl
  omega
theorem strs_good {t : T} (h : ∀ c ∈ t, c < 1114112) : (t.map fun c => D.str [c]).all (D.good 1) = true := by
  rw [List.all_eq_true]
  intro x hx
  obtain ⟨c, hc, rfl⟩ := List.mem_map.mp hx
  simp [D.good, h c hc]
theorem not_dig (t : T) : (t.filter fun c => !dig c).isEmpty = t.all dig := by
  induction t with
  | nil => rfl
  | cons c t ih =>
    rw [List.filter_cons, List.all_cons, ← ih]
    cases dig c <;> simp
def Asc (t : T) : Prop := ∀ c ∈ t, c < 1114112
theorem lu_step (n : Nat) (q x z : W) (acc : List Nat) (k : Nat) (p : T) (rs : List T) (y u v : Option W) (s : Store) (hk : rs[k]? = some p) (hp : p.length ≤ 1000000) (ha : Asc p) (hl : acc.length + 999 ≤ 16777216) :
    ∃ u' v', forBody (.name 3) (evSs (run Ga n) Ga.gl luBody) (.int (k : Int)) [some q, some (.d (rowD acc)), some (.d (.list (rs.map .str))), y, u, v] s =
      if runOk p && (decide (k = 0) || decide (1 ≤ dv p)) then .ok .next [some q, some (.d (rowD (acc ++ List.replicate (dv p) (k % 2)))), some (.d (.list (rs.map .str))), some (.d (.int (k : Int))), u', v'] s
      else .ok (.ret (.d (.list []))) [some q, some (.d (rowD acc)), some (.d (.list (rs.map .str))), some (.d (.int (k : Int))), u', v'] s := by
  have f1 : fits p.length = true := fits_of (by omega)
  have ix : idxD (.list (rs.map .str)) (.int (k : Int)) = some (.str p) := idx_listE (by rw [List.getElem?_map, hk]; rfl)
  refine ⟨some (.d (.str p)), v, ?_⟩
  unfold forBody
  simp only [bindPt_name, setVar_s, setVar_0]
  by_cases p0 : p = []
  · subst p0
    simp [luBody, b_law_unpacked, ix, runOk]
  · have pne : p.isEmpty = false := by simpa using p0
    by_cases p1 : p.length ≤ 3
    · have c1 : ¬ (3 : Int) < (p.length : Int) := by omega
      have lc : lcLoop (lcBody (.name 5) [ofV fun ρ => M.bind (getVar 5 ρ) fun x => M.bind (peek x) fun x => M.bind (lift (cmpD .NotIn x (.str [48, 49, 50, 51, 52, 53, 54, 55, 56, 57]))) fun z => M.pure (.d (.bool z))] (ofV fun ρ => getVar 5 ρ) [some q, some (.d (rowD acc)), some (.d (.list (rs.map .str))), some (.d (.int (k : Int))), some (.d (.str p)), none]) (p.map fun c => .str [c]) [] = M.pure ((p.filter fun c => !dig c).map fun c => D.str [c]) := by
        rw [lc_str (fun c => if dig c then none else some (.str [c])) (fun c _ => by cases hd : dig c <;> simp [lcBody_eq, -in_sign, -notin_sign, notin_dig, hd]) (by omega)]
        congr 1
        clear hk hp ha f1 ix p0 pne p1 c1
        induction p with
        | nil => rfl
        | cons c p ih => cases hd : dig c <;> simp [hd, ih]
      have hg : ((p.filter fun c => !dig c).map fun c => D.str [c]).all (D.good 1) = true := strs_good fun c hc => ha c (List.mem_filter.mp hc).1
      have ne := ne_nilE (n := 1) (by decide) hg
      rw [List.isEmpty_map, not_dig] at ne
      simp [luBody, b_law_unpacked, ix, p0, len_str f1, c1, walk_str f1]
      rw [lc]
      cases a3 : p.all dig with
      | false =>
        rw [a3] at ne
        have ro : runOk p = false := by simp [runOk, a3]
        simp [ne, ro]
      | true =>
        rw [a3] at ne
        obtain ⟨c, r, e⟩ : ∃ c r, p = c :: r := by
          cases e : p with
          | nil => exact absurd e p0
          | cons c r => exact ⟨c, r, rfl⟩
        have hx : idxD (.str p) (.int 0) = some (.str [c]) := idx_str0 f1 e
        have hh : p.head? = some c := by rw [e]; rfl
        have bi : biD .int [.str p] = some (.int (dv p : Int)) := by
          show (if decide (p.length ≤ 640) then (intText? ⟨p.toArray⟩).map D.int else none) = _
          rw [decide_eq_true (by omega), iv_digits a3 p0 (by omega)]
          rfl
        have m2 := mod2N k
        have d9 := dv_lt a3 p1
        have rp := rep_N (k % 2) (dv p) (by omega)
        have ad : binD .Add (rowD acc) (.list ((List.replicate (dv p) (k % 2)).map nD)) = some (rowD (acc ++ List.replicate (dv p) (k % 2))) := by
          unfold rowD
          rw [add_list (by simp; omega), List.map_append]
        by_cases c48 : c = 48 ∧ p ≠ [48]
        · have ro : runOk p = false := by
            simp [runOk, hh, c48.1, c48.2]
          simp [ne, hx, c48.1, c48.2, ro]
        · have ro : runOk p = true := by
            unfold runOk
            rw [pne, decide_eq_true p1, a3, hh]
            by_cases z : c = 48
            · have : p = [48] := Classical.byContradiction fun y => c48 ⟨z, y⟩
              rw [decide_eq_true this]
              simp
            · have : decide (some c = some 48) = false := by simp [z]
              rw [this]
              rfl
          have cond : (decide (c = 48) && !decide (p = [48])) = false := by
            by_cases z : c = 48
            · have : p = [48] := Classical.byContradiction fun y => c48 ⟨z, y⟩
              rw [decide_eq_true this]
              simp
            · rw [decide_eq_false z]
              rfl
          generalize hd : dv p = m at bi rp ad ⊢
          generalize hk2 : k % 2 = k2 at m2 rp ad ⊢
          generalize hR : (List.replicate m k2).map nD = R at rp ad
          clear hR lc
          have mz : ((m : Int) = 0) ↔ m = 0 := by omega
          simp [ne, hx, bi, m2, rp, ad, ro, mz]
          rw [if_neg c48]
          by_cases y1 : m = 0 ∧ 0 < k
          · rw [if_pos y1, if_neg (by omega)]
          · rw [if_neg y1, if_pos (by omega)]
    · have c1 : (3 : Int) < (p.length : Int) := by omega
      simp [luBody, b_law_unpacked, ix, p0, len_str f1, c1, runOk, p1]
theorem lu_loop (n : Nat) (q : W) (rs : List T) (hs : ∀ p ∈ rs, p.length ≤ 1000000 ∧ Asc p) (s : Store) : ∀ (ps : List T) (k : Nat) (acc : List Nat) (y u v : Option W), rs.drop k = ps → acc.length + 1000 * ps.length ≤ 16777000 →
    match luGo k ps with
    | some r => ∃ y' u' v', forLoop (forBody (.name 3) (evSs (run Ga n) Ga.gl luBody)) ((List.range' k ps.length).map nD) [some q, some (.d (rowD acc)), some (.d (.list (rs.map .str))), y, u, v] s = .ok .next [some q, some (.d (rowD (acc ++ r))), some (.d (.list (rs.map .str))), y', u', v'] s
    | none => ∃ ρ, forLoop (forBody (.name 3) (evSs (run Ga n) Ga.gl luBody)) ((List.range' k ps.length).map nD) [some q, some (.d (rowD acc)), some (.d (.list (rs.map .str))), y, u, v] s = .ok (.ret (.d (.list []))) ρ s
  | [], k, acc, y, u, v, _, _ => ⟨y, u, v, by simp [forLoop]⟩
  | p :: ps, k, acc, y, u, v, hd, hl => by
    have hl : acc.length + 1000 * (ps.length + 1) ≤ 16777000 := hl
    have hk : rs[k]? = some p := by
      have := congrArg (fun l => l[0]?) hd
      simpa using this
    obtain ⟨h1, h2⟩ := hs p (List.mem_of_getElem? hk)
    obtain ⟨u', v', e⟩ := lu_step n q (.d .non) (.d .non) acc k p rs y u v s hk h1 h2 (by omega)
    rw [List.length_cons, List.range'_succ, List.map_cons]
    unfold luGo
    by_cases c : (runOk p && (decide (k = 0) || decide (1 ≤ dv p))) = true
    · rw [if_pos c] at e
      rw [if_pos c]
      have dl := dv_lt (okW_of ((Bool.and_eq_true _ _).mp c).1).2.1 (okW_of ((Bool.and_eq_true _ _).mp c).1).2.2.2.1
      have ih := lu_loop n q rs hs s ps (k + 1) (acc ++ List.replicate (dv p) (k % 2)) (some (.d (.int (k : Int)))) u' v' (by rw [← List.drop_drop, hd]; rfl) (by simp; omega)
      rw [forLoop, e]
      cases g : luGo (k + 1) ps with
      | none =>
        rw [g] at ih
        exact ih
      | some r =>
        rw [g] at ih
        obtain ⟨y', u', v', e2⟩ := ih
        refine ⟨y', u', v', ?_⟩
        show forLoop _ _ _ _ = _
        rw [e2, List.append_assoc]
    · rw [if_neg c] at e
      rw [if_neg c]
      refine ⟨[some q, some (.d (rowD acc)), some (.d (.list (rs.map .str))), some (.d (.int (k : Int))), u', v'], ?_⟩
      rw [forLoop, e]
theorem law_unpacked_run (n : Nat) (t : T) (h : t.length ≤ 15000) (ha : Asc t) (s : Store) : run Ga (n + 1) "_law_unpacked" [.d (.str t)] s = .ok (.d (rowD ((luGo 0 (parts t)).getD []))) s := by
  have sp : mtD .split (.str t) [.str [32]] = some (.list ((parts t).map .str)) := split_E (by decide) (by omega)
  have pl : (parts t).length ≤ 15001 := by have := split_num 32 t; unfold parts; omega
  have lp := lu_loop n (.d (.str t)) (parts t) (fun p hp => ⟨by have := split_len hp; omega, fun c hc => ha c (split_mem hp c hc)⟩) s (parts t) 0 [] none none none rfl (by simp; omega)
  have rg : rangeD [.int ((parts t).length : Int)] = some ((List.range' 0 (parts t).length).map nD) := by
    rw [range1' (by omega), List.range_eq_range']
  have r0 : rowD [] = .list [] := rfl
  rw [r0] at lp
  simp only [luBody, b_law_unpacked] at lp
  rw [run_fn f_lu rfl]
  cases g : luGo 0 (parts t) with
  | none =>
    rw [g] at lp
    obtain ⟨ρ, e⟩ := lp
    simp [b_law_unpacked, sp, rg, -range1_E]
    rw [e]
    simp [r0]
  | some r =>
    rw [g] at lp
    obtain ⟨y, u, v, e⟩ := lp
    simp [b_law_unpacked, sp, rg, -range1_E]
    rw [e]
    simp
/-- what the law makes of a line -/
theorem lu_upk (t : T) : upk t = (let r := (luGo 0 (parts t)).getD []; if r = [] ∨ 300 < r.length then none else some r) := by
  unfold upk
  rw [luGo_0]
  cases runsOk (parts t) with
  | false => rfl
  | true =>
    show (if (decide (1 ≤ (rowU 0 (parts t)).length) && decide ((rowU 0 (parts t)).length ≤ 300)) = true then some (rowU 0 (parts t)) else none) = (if rowU 0 (parts t) = [] ∨ 300 < (rowU 0 (parts t)).length then none else some (rowU 0 (parts t)))
    generalize rowU 0 (parts t) = r
    have e : r = [] ↔ ¬ 1 ≤ r.length := by
      cases r with
      | nil => simp
      | cons _ _ => simp
    by_cases c : r = [] ∨ 300 < r.length
    · rw [if_pos c, if_neg]
      rw [e] at c
      rw [Bool.and_eq_true, decide_eq_true_eq, decide_eq_true_eq]
      omega
    · rw [if_neg c, if_pos]
      rw [e] at c
      rw [Bool.and_eq_true, decide_eq_true_eq, decide_eq_true_eq]
      omega
end K78

namespace K78
open Cr PySem
theorem f_rk : Ga.fn "read_packed" = some b_read_packed := by kernel_rfl
theorem f_lrk : Ga.fn "_law_read_packed" = some b_law_read_packed := by kernel_rfl
theorem py_row : ∀ a : List Nat, D.toPys (a.map nD) = some (a.map fun (v : Nat) => PyData.int (v : Int))
  | [] => rfl
  | v :: a => by
    show ((D.toPy (nD v)).bind fun x => (D.toPys (a.map nD)).map fun r => x :: r) = _
    rw [py_row a]
    rfl
theorem eqv_row : ∀ a b : List Nat, PyData.eqvAll (a.map fun (v : Nat) => PyData.int (v : Int)) (b.map fun (v : Nat) => PyData.int (v : Int)) = decide (a = b)
  | [], [] => by simp [PyData.eqvAll]
  | [], _ :: _ => by simp [PyData.eqvAll]
  | _ :: _, [] => by simp [PyData.eqvAll]
  | v :: a, u :: b => by
    simp only [List.map_cons, PyData.eqvAll, eqv_row a b]
    by_cases h : v = u
    · subst h
      simp [PyData.eqv]
    · have : ¬ (v : Int) = (u : Int) := by omega
      simp [PyData.eqv, h, this]
theorem row_good (a : List Nat) : (rowD a).good 2 = true := by
  show (a.map nD).all (D.good 1) = true
  rw [List.all_map]
  exact List.all_eq_true.mpr fun _ _ => rfl
theorem eqD_row (a b : List Nat) : eqD (rowD a) (rowD b) = some (decide (a = b)) := by
  have pa : (rowD a).toPy = some (.list (a.map fun (v : Nat) => PyData.int (v : Int))) := by
    show (D.toPys (a.map nD)).map PyData.list = _
    rw [py_row]
    rfl
  have pb : (rowD b).toPy = some (.list (b.map fun (v : Nat) => PyData.int (v : Int))) := by
    show (D.toPys (b.map nD)).map PyData.list = _
    rw [py_row]
    rfl
  have sh : ∀ (c : List Nat) (d : PyData), (rowD c).toPy = some d → SeqAt.shaped d = true := fun c d h => by
    obtain ⟨d', h1, h2, h3⟩ := good_py 2 (rowD c) (row_good c)
    rw [h] at h1
    cases h1
    unfold SeqAt.shaped
    rw [h2, decide_eq_true (by omega)]
    rfl
  show eqDeep (rowD a) (rowD b) = _
  unfold eqDeep
  rw [pa, pb]
  simp only [Option.bind_some]
  rw [sh a _ pa, sh b _ pb]
  simp only [Bool.and_self, if_true]
  rw [PyData.eqv, eqv_row]
theorem eq_row (a b : List Nat) : cmpD .Eq (rowD a) (rowD b) = some (decide (a = b)) := eqD_row a b
/-- a packed line's row, with the row ahead -/
def pkRow (rows : List (List Nat)) (p : T) : Option (List Nat) := if p = [61] then (match rows.getLast? with
    | some r => some r
    | none => upk p) else upk p
def okAt (rows : List (List Nat)) (p : T) (r : List Nat) : Bool := match rows with
  | [] => true
  | r0 :: _ => decide (r.length = r0.length) && (decide (p = [61]) || !decide (rows.getLast? = some r))
def pkGo : List (List Nat) → List T → Rd
  | rows, [] => .rows rows
  | rows, p :: ps => match pkRow rows p with
    | none => .bad rows.length
    | some r => if okAt rows p r then pkGo (rows ++ [r]) ps else .bad rows.length
def readK (t : T) : Rd := match pkGo [] (lines t) with
  | .bad k => .bad k
  | .rows rows => if rows.length ≤ 300 then .rows rows else .bad (-1)
theorem upk_eq1 : upk [61] = none := by rfl
def rkBody : List S := match b_read_packed.body with
  | [_, .for _ _ b, _, _] => b
  | _ => []
/-- behind the row is told: the tests -/
theorem rk_nil (n : Nat) (q : W) (p : T) (i : Int) (S S2 : Store) (L R : Nat) (rd : List D) (h1 : S[L]? = some (.list [])) (h2 : S[R]? = some (dl rd)) (h3 : S.set L (.list [.ref R]) = S2) :
    evSs (run Ga n) Ga.gl (rkBody.drop 1) [some q, some (.ref L), some (.d (.int i)), some (.d (.str p)), some (.ref R)] S = .ok .next [some q, some (.ref L), some (.d (.int i)), some (.d (.str p)), some (.ref R)] S2 := by
  by_cases hp : p = [61] <;> simp [rkBody, b_read_packed, h1, h2, isNon, h3, hp]
theorem rk_cons (n : Nat) (q : W) (p : T) (i : Int) (S S2 : Store) (L R R0 R1 : Nat) (F G : List W) (rd r0 r1 : List Nat) (h1 : S[L]? = some (.list F)) (hF : F = .ref R0 :: G) (hG : ∃ G', F = G' ++ [.ref R1]) (h2 : S[R]? = some (rowC rd)) (h0 : S[R0]? = some (rowC r0)) (hr1 : S[R1]? = some (rowC r1)) (hl : F.length < 16777216) (h3 : S.set L (.list (F ++ [.ref R])) = S2) :
    evSs (run Ga n) Ga.gl (rkBody.drop 1) [some q, some (.ref L), some (.d (.int i)), some (.d (.str p)), some (.ref R)] S = if decide (rd.length = r0.length) && (decide (p = [61]) || !decide (rd = r1)) then .ok .next [some q, some (.ref L), some (.d (.int i)), some (.d (.str p)), some (.ref R)] S2 else .ok (.exc "BadLine" (some ("line", .int i))) [some q, some (.ref L), some (.d (.int i)), some (.d (.str p)), some (.ref R)] S := by
  have ix : L2.atI F (0 : Int) = some (.ref R0) := by rw [hF]; exact L2.atI_nat (j := 0) rfl
  have ix1 : L2.atI F (-1) = some (.ref R1) := by obtain ⟨G', e⟩ := hG; rw [e]; exact L2.atI_last _ _
  have ne : F.isEmpty = false := by rw [hF]; rfl
  have ne' : F ≠ [] := by rw [hF]; simp
  have e2 : S[R]? = some (dl (rd.map nD)) := h2
  have e0 : S[R0]? = some (dl (r0.map nD)) := h0
  have e1 : S[R1]? = some (dl (r1.map nD)) := hr1
  have er : cmpD .Eq (.list (rd.map nD)) (.list (r1.map nD)) = some (decide (rd = r1)) := eq_row rd r1
  by_cases hp : p = [61]
  · by_cases e : rd.length = r0.length
    · simp [rkBody, b_read_packed, h1, e2, e0, isNon, h3, ixS_W ix, hl, e, ne', hp]
    · have e' : ¬ (rd.length : Int) = (r0.length : Int) := by omega
      simp [rkBody, b_read_packed, h1, e2, e0, isNon, h3, ixS_W ix, hl, e, e', ne', hp]
  · by_cases e : rd.length = r0.length
    · by_cases c : rd = r1
      · subst c
        have er : cmpD .Eq (.list (rd.map nD)) (.list (rd.map nD)) = some true := by rw [er]; simp
        simp [rkBody, b_read_packed, h1, e2, e0, e1, isNon, h3, ixS_W ix, ixS_W ix1, hl, e, ne', hp, un_m1, er]
      · simp [rkBody, b_read_packed, h1, e2, e0, e1, isNon, h3, ixS_W ix, ixS_W ix1, hl, e, ne', hp, un_m1, er, c]
    · have e' : ¬ (rd.length : Int) = (r0.length : Int) := by omega
      simp [rkBody, b_read_packed, h1, e2, e0, isNon, h3, ixS_W ix, hl, e, e', ne', hp]
theorem upk_ok {t : T} {r : List Nat} (h : upk t = some r) : 1 ≤ r.length ∧ r.length ≤ 300 ∧ ∀ v ∈ r, v ≤ 1 := by
  have small : ∀ (ps : List T) (k : Nat), ∀ v ∈ rowU k ps, v ≤ 1 := by
    intro ps
    induction ps with
    | nil => intro k v hv; cases hv
    | cons p ps ih =>
      intro k v hv
      rcases List.mem_append.mp (show v ∈ List.replicate (dv p) (k % 2) ++ rowU (k + 1) ps from hv) with h | h
      · have := (List.mem_replicate.mp h).2
        have := Nat.mod_lt k (show 2 > 0 by decide)
        omega
      · exact ih (k + 1) v h
  unfold upk at h
  split at h
  · rename_i hc
    cases h
    obtain ⟨_, c2⟩ := (Bool.and_eq_true _ _).mp hc
    obtain ⟨c3, c4⟩ := (Bool.and_eq_true _ _).mp c2
    exact ⟨of_decide_eq_true c3, of_decide_eq_true c4, small _ _⟩
  · cases h
/-- rows that stand together -/
structure Rows01 (rows : List (List Nat)) : Prop where
  same : ∀ r ∈ rows, ∀ r0, rows.head? = some r0 → r.length = r0.length
  one : ∀ r ∈ rows, 1 ≤ r.length ∧ r.length ≤ 300 ∧ ∀ v ∈ r, v ≤ 1
theorem Rows01.nil : Rows01 [] := ⟨fun r h => (nomatch h), fun r h => (nomatch h)⟩
theorem Rows01.push {rows : List (List Nat)} (R : Rows01 rows) {p : T} {r : List Nat} (h : pkRow rows p = some r) (ok : okAt rows p r = true) : Rows01 (rows ++ [r]) := by
  have one : 1 ≤ r.length ∧ r.length ≤ 300 ∧ ∀ v ∈ r, v ≤ 1 := by
    unfold pkRow at h
    split at h
    · split at h
      · rename_i r' e
        cases h
        exact R.one r (List.mem_of_getLast? e)
      · exact upk_ok h
    · exact upk_ok h
  refine ⟨fun r' hr r0 h0 => ?_, fun r' hr => ?_⟩
  · cases rows with
    | nil =>
      have : r' = r := by simpa using hr
      have : r0 = r := by
        have h0 : some r = some r0 := h0
        exact (Option.some.inj h0).symm
      rw [‹r' = r›, ‹r0 = r›]
    | cons a b =>
      have : r0 = a := by
        have h0 : some a = some r0 := h0
        exact (Option.some.inj h0).symm
      subst this
      rcases List.mem_append.mp hr with hr | hr
      · exact R.same r' hr r0 rfl
      · have : r' = r := by simpa using hr
        subst this
        exact of_decide_eq_true ((Bool.and_eq_true _ _).mp ok).1
  · rcases List.mem_append.mp hr with hr | hr
    · exact R.one r' hr
    · have : r' = r := by simpa using hr
      rw [this]
      exact one
theorem refsF_snoc (L k : Nat) : ∃ G, refsF L (k + 1) = G ++ [.ref (L + 1 + k)] := ⟨refsF L k, refsF_succ L k⟩
theorem list_row (r : List Nat) : biD .list [.list (r.map nD)] = some (.list (r.map nD)) := rfl
theorem last_cases {α : Type} (l : List α) : l = [] ∨ ∃ i x, l = i ++ [x] := by
  cases h : l.reverse with
  | nil => exact .inl (List.reverse_eq_nil_iff.mp h)
  | cons x r => exact .inr ⟨r.reverse, x, by rw [← List.reverse_reverse l, h, List.reverse_cons]⟩
/-- the row's cell -/
theorem rk_first (n : Nat) (q : W) (s : Store) (rows : List (List Nat)) (p : T) (i : Int) (z : Option W) (hp : p.length ≤ 100000) : match pkRow rows p with
      | none => evSs (run Ga (n + 2)) Ga.gl rkBody [some q, some (.ref s.length), some (.d (.int i)), some (.d (.str p)), z] (stF s rows) = evSs (run Ga (n + 2)) Ga.gl (rkBody.drop 1) [some q, some (.ref s.length), some (.d (.int i)), some (.d (.str p)), some (.d .non)] (stF s rows)
      | some r => evSs (run Ga (n + 2)) Ga.gl rkBody [some q, some (.ref s.length), some (.d (.int i)), some (.d (.str p)), z] (stF s rows) = evSs (run Ga (n + 2)) Ga.gl (rkBody.drop 1) [some q, some (.ref s.length), some (.d (.int i)), some (.d (.str p)), some (.ref (s.length + 1 + rows.length))] (stF s rows ++ [rowC r]) := by
  have body : rkBody = .asg (.name 4) (.ite (.and (.cmp .Eq (.var 3) (.con (.str [61]))) (.var 1)) (.bi true .list [(.idx (.var 1) (.un .USub (.con (.int 1))))]) (.call true "unpacked_row" [(.var 3)])) :: rkBody.drop 1 := rfl
  have up := unpacked_row_run n p hp (stF s rows)
  have a0 := stF_at0 s rows
  rw [body]
  generalize rkBody.drop 1 = rest
  have call : (p = [61] → rows = []) → (match upk p with
      | none => evSs (run Ga (n + 2)) Ga.gl (.asg (.name 4) (.ite (.and (.cmp .Eq (.var 3) (.con (.str [61]))) (.var 1)) (.bi true .list [(.idx (.var 1) (.un .USub (.con (.int 1))))]) (.call true "unpacked_row" [(.var 3)])) :: rest) [some q, some (.ref s.length), some (.d (.int i)), some (.d (.str p)), z] (stF s rows) = evSs (run Ga (n + 2)) Ga.gl rest [some q, some (.ref s.length), some (.d (.int i)), some (.d (.str p)), some (.d .non)] (stF s rows)
      | some r => evSs (run Ga (n + 2)) Ga.gl (.asg (.name 4) (.ite (.and (.cmp .Eq (.var 3) (.con (.str [61]))) (.var 1)) (.bi true .list [(.idx (.var 1) (.un .USub (.con (.int 1))))]) (.call true "unpacked_row" [(.var 3)])) :: rest) [some q, some (.ref s.length), some (.d (.int i)), some (.d (.str p)), z] (stF s rows) = evSs (run Ga (n + 2)) Ga.gl rest [some q, some (.ref s.length), some (.d (.int i)), some (.d (.str p)), some (.ref (s.length + 1 + rows.length))] (stF s rows ++ [rowC r])) := fun h => by
    cases hu : upk p with
    | none =>
      rw [hu] at up
      have up : run Ga (n + 2) "unpacked_row" [.d (.str p)] (stF s rows) = .ok (.d .non) (stF s rows) := up
      by_cases e : p = [61]
      · have rn := h e
        rw [rn] at a0 up ⊢
        have a0 : (stF s [])[s.length]? = some (.list []) := a0
        simp [e, a0]
        rw [e] at up
        rw [exM_ok up]
        simp
      · simp [e]
        rw [exM_ok up]
        simp
    | some r =>
      rw [hu, stF_len] at up
      have up : run Ga (n + 2) "unpacked_row" [.d (.str p)] (stF s rows) = .ok (.ref (s.length + 1 + rows.length)) (stF s rows ++ [rowC r]) := up
      by_cases e : p = [61]
      · rw [e, upk_eq1] at hu
        cases hu
      · simp [e]
        rw [exM_ok up]
        simp
  unfold pkRow
  by_cases e : p = [61]
  · rcases last_cases rows with rn | ⟨init, last, rn⟩
    · have := call fun _ => rn
      rw [if_pos e, rn]
      rw [rn] at this
      exact this
    · rw [if_pos e, rn, List.getLast?_concat]
      rw [rn] at a0
      have ll : (init ++ [last]).length = init.length + 1 := by simp
      rw [ll, refsF_succ] at a0
      have ix := L2.atI_last (refsF s.length init.length) (W.ref (s.length + 1 + init.length))
      have ar : (stF s (init ++ [last]))[s.length + 1 + init.length]? = some (dl (last.map nD)) := stF_row0 s (init ++ [last]) (by simp)
      have sl := stF_len s (init ++ [last])
      simp [e, a0, un_m1, ixS_W ix, ar, list_row]
      rw [sl, ll]
      rfl
  · rw [if_neg e]
    exact call fun h => absurd h e
theorem rk_step (n : Nat) (q : W) (s : Store) (rows : List (List Nat)) (p : T) (x y z : Option W) (hp : p.length ≤ 100000) (hl : rows.length < 1000000) :
    match pkRow rows p with
    | none => ∃ ρ st, forBody (.tup [.name 2, .name 3]) (evSs (run Ga (n + 2)) Ga.gl rkBody) (.tup [.int (rows.length : Int), .str p]) [some q, some (.ref s.length), x, y, z] (stF s rows) = .ok (.exc "BadLine" (some ("line", .int (rows.length : Int)))) ρ st
    | some r => if okAt rows p r then forBody (.tup [.name 2, .name 3]) (evSs (run Ga (n + 2)) Ga.gl rkBody) (.tup [.int (rows.length : Int), .str p]) [some q, some (.ref s.length), x, y, z] (stF s rows) =
        .ok .next [some q, some (.ref s.length), some (.d (.int (rows.length : Int))), some (.d (.str p)), some (.ref (s.length + 1 + rows.length))] (stF s (rows ++ [r]))
      else ∃ ρ st, forBody (.tup [.name 2, .name 3]) (evSs (run Ga (n + 2)) Ga.gl rkBody) (.tup [.int (rows.length : Int), .str p]) [some q, some (.ref s.length), x, y, z] (stF s rows) = .ok (.exc "BadLine" (some ("line", .int (rows.length : Int)))) ρ st := by
  have first := rk_first n q s rows p (rows.length : Int) z hp
  unfold forBody
  simp only [bindPt_tup, bindPts_cons, bindPts_nil, bindPt_name, Option.bind_some, setVar_s, setVar_0]
  cases hr : pkRow rows p with
  | none =>
    rw [hr] at first
    refine ⟨[some q, some (.ref s.length), some (.d (.int (rows.length : Int))), some (.d (.str p)), some (.d .non)], stF s rows, ?_⟩
    rw [first]
    simp [rkBody, b_read_packed, isNon]
  | some r =>
    rw [hr] at first
    dsimp only
    rw [first]
    have a1 := stF_new s rows r
    have pu := stF_push s rows r
    have a0 := stF_at s rows [rowC r]
    cases rows with
    | nil =>
      rw [if_pos (show okAt [] p r = true from rfl)]
      exact rk_nil (n + 2) q p _ _ _ _ _ (r.map nD) a0 a1 pu
    | cons r0 rest =>
      obtain ⟨F, eF⟩ := refsF_cons s.length rest.length
      obtain ⟨init, last, el⟩ : ∃ init last, r0 :: rest = init ++ [last] := by
        rcases last_cases (r0 :: rest) with h | h
        · cases h
        · exact h
      have ln : (r0 :: rest).length = init.length + 1 := by rw [el]; simp
      have gl : (r0 :: rest).getLast? = some last := by rw [el, List.getLast?_concat]
      have a2 : (stF s (r0 :: rest) ++ [rowC r])[s.length + 1]? = some (rowC r0) := stF_row s (r0 :: rest) [rowC r] (i := 0) rfl
      have a3 : (stF s (r0 :: rest) ++ [rowC r])[s.length + 1 + init.length]? = some (rowC last) := stF_row s (r0 :: rest) [rowC r] (i := init.length) (by rw [el]; simp)
      have st2 := rk_cons (n + 2) q p ((r0 :: rest).length : Nat) _ _ _ _ _ _ (refsF s.length (r0 :: rest).length) F r r0 last a0 eF (by rw [ln]; exact refsF_snoc _ _) a1 a2 a3 (by rw [refsF_len]; simp at hl ⊢; omega) pu
      rw [st2]
      have ok : okAt (r0 :: rest) p r = (decide (r.length = r0.length) && (decide (p = [61]) || !decide (r = last))) := by
        show (decide (r.length = r0.length) && (decide (p = [61]) || !decide ((r0 :: rest).getLast? = some r))) = _
        rw [gl]
        congr 3
        by_cases z : r = last
        · rw [z]; simp
        · rw [decide_eq_false z, decide_eq_false fun w => z (Option.some.inj w).symm]
      rw [ok]
      cases (decide (r.length = r0.length) && (decide (p = [61]) || !decide (r = last))) with
      | true => rfl
      | false => exact ⟨_, _, rfl⟩
end K78

namespace K78
open Cr PySem
theorem pkGo_rows : ∀ {ps : List T} {rows R : List (List Nat)}, Rows01 rows → pkGo rows ps = .rows R → Rows01 R ∧ R.length = rows.length + ps.length
  | [], rows, R, h, e => by
    cases e
    exact ⟨h, rfl⟩
  | p :: ps, rows, R, h, e => by
    unfold pkGo at e
    cases hr : pkRow rows p with
    | none => rw [hr] at e; cases e
    | some r =>
      rw [hr] at e
      have e : (if okAt rows p r then pkGo (rows ++ [r]) ps else .bad rows.length) = Rd.rows R := e
      cases ok : okAt rows p r with
      | false => rw [ok] at e; cases e
      | true =>
        rw [ok, if_pos rfl] at e
        obtain ⟨a, b⟩ := pkGo_rows (h.push hr ok) e
        refine ⟨a, ?_⟩
        rw [b]
        simp
        omega
theorem rk_loop (n : Nat) (q : W) (s : Store) : ∀ (ps : List T) (rows : List (List Nat)) (x y z : Option W), (∀ p ∈ ps, p.length ≤ 100000) → rows.length + ps.length ≤ 1000000 →
    match pkGo rows ps with
    | .rows R => ∃ x' y' z', forLoop (forBody (.tup [.name 2, .name 3]) (evSs (run Ga (n + 2)) Ga.gl rkBody)) (enumS rows.length ps) [some q, some (.ref s.length), x, y, z] (stF s rows) = .ok .next [some q, some (.ref s.length), x', y', z'] (stF s R)
    | .bad k => ∃ ρ st, forLoop (forBody (.tup [.name 2, .name 3]) (evSs (run Ga (n + 2)) Ga.gl rkBody)) (enumS rows.length ps) [some q, some (.ref s.length), x, y, z] (stF s rows) = .ok (.exc "BadLine" (some ("line", .int k))) ρ st
  | [], rows, x, y, z, _, _ => ⟨x, y, z, by simp [enumS, forLoop]⟩
  | p :: ps, rows, x, y, z, hp, hl => by
    have hl : rows.length + (ps.length + 1) ≤ 1000000 := hl
    have st := rk_step n q s rows p x y z (hp p (by simp)) (by omega)
    rw [enumS_cons]
    cases hr : pkRow rows p with
    | none =>
      rw [hr] at st
      obtain ⟨ρ, s2, e2⟩ := st
      have g : pkGo rows (p :: ps) = .bad rows.length := by rw [pkGo, hr]
      rw [g]
      refine ⟨ρ, s2, ?_⟩
      rw [forLoop, e2]
    | some r =>
      rw [hr] at st
      have st : (if okAt rows p r then _ else _) := st
      cases ok : okAt rows p r with
      | false =>
        rw [ok] at st
        obtain ⟨ρ, s2, e2⟩ := st
        have g : pkGo rows (p :: ps) = .bad rows.length := by
          rw [pkGo, hr]
          show (if okAt rows p r then pkGo (rows ++ [r]) ps else .bad rows.length) = _
          rw [ok]
          rfl
        rw [g]
        refine ⟨ρ, s2, ?_⟩
        rw [forLoop, e2]
      | true =>
        rw [ok, if_pos rfl] at st
        have ih := rk_loop n q s ps (rows ++ [r]) (some (.d (.int (rows.length : Int)))) (some (.d (.str p))) (some (.ref (s.length + 1 + rows.length))) (fun p hq => hp p (by simp [hq])) (by simp; omega)
        have el : (rows ++ [r]).length = rows.length + 1 := by simp
        rw [el] at ih
        have g : pkGo rows (p :: ps) = pkGo (rows ++ [r]) ps := by
          rw [pkGo, hr]
          show (if okAt rows p r then pkGo (rows ++ [r]) ps else .bad rows.length) = _
          rw [ok]
          rfl
        rw [g]
        cases hg : pkGo (rows ++ [r]) ps with
        | rows R =>
          rw [hg] at ih
          obtain ⟨x', y', z', e2⟩ := ih
          refine ⟨x', y', z', ?_⟩
          rw [forLoop, st]
          exact e2
        | bad k =>
          rw [hg] at ih
          obtain ⟨ρ, s2, e2⟩ := ih
          refine ⟨ρ, s2, ?_⟩
          rw [forLoop, st]
          exact e2
theorem read_packed_run (n : Nat) (t : T) (h : t.length ≤ 100000) (s : Store) : match readK t with
    | .rows r => run Ga (n + 3) "read_packed" [.d (.str t)] s = .ok (.ref s.length) (stF s r)
    | .bad k => ∃ st, run Ga (n + 3) "read_packed" [.d (.str t)] s = .exc "BadLine" (some ("line", .int k)) st := by
  obtain ⟨l1, l2⟩ := lines_len h
  have ne : lines t ≠ [] := split_ne 10 t
  have lo : pcall (run Ga (n + 2)) "lines_of" [.d (.str t)] = M.pure (.list ((lines t).map .str)) := lines_of_p (n + 1) t (by omega)
  have lp := rk_loop n (.d (.str t)) s (lines t) [] none none none l2 (by simp; omega)
  have s0 : stF s [] = s ++ [.list []] := rfl
  rw [s0] at lp
  have el := enumL_S (lines t)
  unfold readK
  have l0 : ([] : List (List Nat)).length = 0 := rfl
  rw [l0] at lp
  cases hb : pkGo [] (lines t) with
  | bad k =>
    rw [hb] at lp
    obtain ⟨ρ, st, e⟩ := lp
    refine ⟨st, ?_⟩
    rw [run_fn f_rk rfl]
    simp only [rkBody, b_read_packed] at e
    simp [b_read_packed, lo, el]
    rw [e]
    simp
  | rows R =>
    rw [hb] at lp
    obtain ⟨x, y, z, e⟩ := lp
    obtain ⟨ro, rl⟩ := pkGo_rows Rows01.nil hb
    have rl : R.length = (lines t).length := by simpa using rl
    obtain ⟨r0, rest, eR⟩ : ∃ r0 rest, R = r0 :: rest := by
      cases R with
      | nil =>
        have : (lines t).length = 0 := rl.symm
        exact absurd (List.length_eq_zero_iff.mp this) ne
      | cons a b => exact ⟨a, b, rfl⟩
    have o0 := ro.one r0 (by rw [eR]; simp)
    have ip := is_picture_run n R r0.length 1 (by rw [eR]; simp) (by omega) (fun r hr => ro.same r hr r0 (by rw [eR]; rfl)) o0.1 (by omega) (fun r hr => (ro.one r hr).2.2) []
    have ipc : pcall (run Ga (n + 2)) "is_picture" [.ref s.length, .d (.int 1)] (stF s R) = .ok (.bool (decide (R.length ≤ 300) && decide (r0.length ≤ 300))) (stF s R) :=
      pcall_st (xs := [picD R, .int 1]) (by
        rw [List.mapM_cons, stF_stands0 s R 4]
        rfl) ip rfl
    rw [decide_eq_true o0.2.1, Bool.and_true] at ipc
    simp only [rkBody, b_read_packed] at e
    by_cases hc : R.length ≤ 300
    · rw [decide_eq_true hc] at ipc
      simp only [if_pos hc]
      rw [run_fn f_rk rfl]
      simp [b_read_packed, lo, el]
      rw [e]
      simp
      rw [exM_bind ipc]
      simp
    · rw [decide_eq_false hc] at ipc
      simp only [if_neg hc]
      refine ⟨stF s R, ?_⟩
      rw [run_fn f_rk rfl]
      simp [b_read_packed, lo, el]
      rw [e]
      simp
      rw [exM_bind ipc]
      simp [unD]
theorem told1_run (n : Nat) (t : T) (h : t.length ≤ 100000) : pcall (run Ga (n + 4)) "_law_told" [.d (.int 1), .d (.str t)] = M.pure (rdV (readK t)) := by
  have q := read_packed_run n t h []
  have go : run Ga (n + 4) "_law_told" [.d (.int 1), .d (.str t)] [] = .ok (.d (rdV (readK t))) [] := by
    rw [run_fn f_lt rfl]
    cases hr : readK t with
    | rows r =>
      rw [hr] at q
      have pc : pcall (run Ga (n + 3)) "read_packed" [.d (.str t)] = M.pure (picD r) := pcall_ref (xs := [.str t]) q (stF_stands0 [] r 4)
      simp [b_law_told, pc, rdV]
    | bad k =>
      rw [hr] at q
      obtain ⟨st, q⟩ := q
      have pc := pcall_exc (xs := [.str t]) q []
      have pc : pcall (run Ga (n + 3)) "read_packed" [.d (.str t)] [] = .exc "BadLine" (some ("line", .int k)) [] := pc
      simp [b_law_told]
      rw [exM_bind_exc pc]
      simp [catch_line, rdV]
  exact pcall2 go
end K78

namespace K78
open Cr PySem
def lkBody : List S := match b_law_read_packed.body with
  | [_, _, .for _ _ b, _, _] => b
  | _ => []
theorem eq_row_nil (r : List Nat) : cmpD .Eq (rowD r) (.list []) = some (decide (r = [])) := by
  have := eq_row r []
  exact this
def lkTail (rows : List (List Nat)) (r : List Nat) : Bool := match rows with
  | [] => false
  | r0 :: _ => !decide (r.length = r0.length) || decide (rows.getLast? = some r)
def lkBad (rows : List (List Nat)) (r : List Nat) : Bool := decide (r = []) || (decide (300 < r.length) || lkTail rows r)
def lkRest : List S := match lkBody with
  | [.ite _ _ b] => b.drop 1
  | _ => []
theorem lk_rest (n : Nat) (q : W) (ls : List T) (rows : List (List Nat)) (r : List Nat) (hl : rows.length < 1000000) :
    evSs (run Ga n) Ga.gl lkRest [some q, some (.d (.list (ls.map .str))), some (.ref 0), some (.d (.int (rows.length : Int))), some (.d (rowD r))] [dl (rows.map rowD)] =
      if lkBad rows r then .ok (.ret (.d (rdV (.bad (rows.length : Int))))) [some q, some (.d (.list (ls.map .str))), some (.ref 0), some (.d (.int (rows.length : Int))), some (.d (rowD r))] [dl (rows.map rowD)]
      else .ok .next [some q, some (.d (.list (ls.map .str))), some (.ref 0), some (.d (.int (rows.length : Int))), some (.d (rowD r))] [dl ((rows ++ [r]).map rowD)] := by
  have en := eq_row_nil r
  have ll : rows.length < 16777216 := by omega
  have lr : lenD (rowD r) = some r.length := by show some (r.map nD).length = _; simp
  unfold lkBad
  by_cases c1 : r = []
  · rw [decide_eq_true c1] at en ⊢
    simp [lkRest, lkBody, b_law_read_packed, en, rdV, RAISED]
  · rw [decide_eq_false c1] at en ⊢
    by_cases c2 : 300 < r.length
    · have c2' : (300 : Int) < (r.length : Int) := by omega
      simp [lkRest, lkBody, b_law_read_packed, en, rdV, RAISED, lr, c2, c2']
    · have c2' : ¬ (300 : Int) < (r.length : Int) := by omega
      rw [decide_eq_false c2]
      rcases last_cases rows with rn | ⟨init, last, rn⟩
      · subst rn
        simp [lkRest, lkBody, b_law_read_packed, en, lr, c2, c2', lkTail]
        rfl
      · obtain ⟨r0, rest, er⟩ : ∃ r0 rest, rows = r0 :: rest := by
          cases rows with
          | nil => simp at rn
          | cons a b => exact ⟨a, b, rfl⟩
        have k0 : 0 < rows.length := by rw [rn]; simp
        have ix0 : L2.atI (rows.map rowD) (0 : Int) = some (rowD r0) := by rw [er]; exact L2.atI_nat (j := 0) rfl
        have ix1 : L2.atI (rows.map rowD) (-1) = some (rowD last) := by rw [rn, List.map_append]; exact L2.atI_last _ _
        have l0 : lenD (rowD r0) = some r0.length := by show some (r0.map nD).length = _; simp
        have gl : rows.getLast? = some last := by rw [rn, List.getLast?_concat]
        have el := eq_row r last
        have mm : lkTail rows r = (!decide (r.length = r0.length) || decide (r = last)) := by
          have : lkTail rows r = (!decide (r.length = r0.length) || decide (rows.getLast? = some r)) := by rw [er]; rfl
          rw [this, gl]
          congr 1
          by_cases z : r = last
          · rw [z]; simp
          · rw [decide_eq_false z, decide_eq_false fun w => z (Option.some.inj w).symm]
        rw [mm]
        by_cases c3 : r.length = r0.length
        · rw [decide_eq_true c3]
          have c3' : (r.length : Int) = (r0.length : Int) := by omega
          cases c4 : decide (r = last) with
          | true =>
            rw [c4] at el
            simp [lkRest, lkBody, b_law_read_packed, en, lr, c2', k0, ixS_dl ix0, ixS_dl ix1, l0, c3', el, un_m1, rdV, RAISED]
          | false =>
            rw [c4] at el
            have c5 : (r0.length : Int) ≤ 300 := by omega
            simp [lkRest, lkBody, b_law_read_packed, en, lr, c2', k0, ixS_dl ix0, ixS_dl ix1, l0, c3', el, un_m1, ll, c5]
        · have c3' : ¬ (r.length : Int) = (r0.length : Int) := by omega
          rw [decide_eq_false c3]
          simp [lkRest, lkBody, b_law_read_packed, en, lr, c2', k0, ixS_dl ix0, l0, c3', rdV, RAISED]
theorem lk_eq {rows : List (List Nat)} (R : Rows01 rows) (p : T) (hn : ¬ (p = [61] ∧ rows ≠ [])) : (match pkRow rows p with
    | none => lkBad rows ((luGo 0 (parts p)).getD []) = true
    | some r => r = (luGo 0 (parts p)).getD [] ∧ lkBad rows r = !okAt rows p r) := by
  have pk : pkRow rows p = upk p := by
    unfold pkRow
    split
    · rename_i e
      rcases last_cases rows with rn | ⟨init, last, rn⟩
      · subst rn
        rfl
      · exact absurd ⟨e, by rw [rn]; simp⟩ hn
    · rfl
  rw [pk, lu_upk p]
  generalize (luGo 0 (parts p)).getD [] = r
  dsimp only
  by_cases c : r = [] ∨ 300 < r.length
  · rw [if_pos c]
    show lkBad rows r = true
    unfold lkBad
    rcases c with c | c
    · rw [decide_eq_true c]; rfl
    · rw [decide_eq_true c]; simp
  · rw [if_neg c]
    refine ⟨rfl, ?_⟩
    have c1 : ¬ r = [] := fun z => c (.inl z)
    have c2 : ¬ 300 < r.length := fun z => c (.inr z)
    unfold lkBad
    rw [decide_eq_false c1, decide_eq_false c2]
    cases rows with
    | nil => rfl
    | cons r0 rest =>
      have pe : ¬ p = [61] := fun z => hn ⟨z, by simp⟩
      show (!decide (r.length = r0.length) || decide ((r0 :: rest).getLast? = some r)) = !(decide (r.length = r0.length) && (decide (p = [61]) || !decide ((r0 :: rest).getLast? = some r)))
      rw [decide_eq_false pe]
      cases decide (r.length = r0.length) <;> cases decide ((r0 :: rest).getLast? = some r) <;> rfl
theorem andS_nil {run : Str → List W → M W} {gl : Str → Option D} (r : SR) : andS r (evSs run gl []) = r := by
  cases r with
  | bad => rfl
  | ok f ρ s => cases f <;> first | rfl | exact evSs_nil ρ s
theorem list_rowD (r : List Nat) : biD .list [rowD r] = some (rowD r) := rfl
theorem lk_step (n : Nat) (q : W) (ls : List T) (rows : List (List Nat)) (R : Rows01 rows) (p : T) (x y : Option W) (hk : ls[rows.length]? = some p) (hp : p.length ≤ 15000) (ha : Asc p) (hl : rows.length < 1000000) :
    match pkRow rows p with
    | none => ∃ ρ st, forBody (.name 3) (evSs (run Ga (n + 1)) Ga.gl lkBody) (.int (rows.length : Int)) [some q, some (.d (.list (ls.map .str))), some (.ref 0), x, y] [dl (rows.map rowD)] = .ok (.ret (.d (rdV (.bad (rows.length : Int))))) ρ st
    | some r => if okAt rows p r then ∃ y', forBody (.name 3) (evSs (run Ga (n + 1)) Ga.gl lkBody) (.int (rows.length : Int)) [some q, some (.d (.list (ls.map .str))), some (.ref 0), x, y] [dl (rows.map rowD)] =
        .ok .next [some q, some (.d (.list (ls.map .str))), some (.ref 0), some (.d (.int (rows.length : Int))), y'] [dl ((rows ++ [r]).map rowD)]
      else ∃ ρ st, forBody (.name 3) (evSs (run Ga (n + 1)) Ga.gl lkBody) (.int (rows.length : Int)) [some q, some (.d (.list (ls.map .str))), some (.ref 0), x, y] [dl (rows.map rowD)] = .ok (.ret (.d (rdV (.bad (rows.length : Int))))) ρ st := by
  have ix : idxD (.list (ls.map .str)) (.int (rows.length : Int)) = some (.str p) := idx_listE (by rw [List.getElem?_map, hk]; rfl)
  have ll : rows.length < 16777216 := by omega
  unfold forBody
  simp only [bindPt_name, setVar_s, setVar_0]
  by_cases hn : p = [61] ∧ rows ≠ []
  · obtain ⟨pe, rne⟩ := hn
    rcases last_cases rows with rn | ⟨init, last, rn⟩
    · exact absurd rn rne
    · have pk : pkRow rows p = some last := by
        unfold pkRow
        rw [if_pos pe, rn, List.getLast?_concat]
      have ok : okAt rows p last = true := by
        obtain ⟨r0, rest, er⟩ : ∃ r0 rest, rows = r0 :: rest := by
          cases rows with
          | nil => exact absurd rfl rne
          | cons a b => exact ⟨a, b, rfl⟩
        have := R.same last (by rw [rn]; simp) r0 (by rw [er]; rfl)
        rw [er]
        show (decide (last.length = r0.length) && (decide (p = [61]) || _)) = true
        rw [decide_eq_true this, decide_eq_true pe]
        rfl
      rw [pk]
      dsimp only
      rw [if_pos ok]
      have ix1 : L2.atI (rows.map rowD) (-1) = some (rowD last) := by rw [rn, List.map_append]; exact L2.atI_last _ _
      have k0 : 0 < rows.length := by rw [rn]; simp
      refine ⟨y, ?_⟩
      simp [lkBody, b_law_read_packed, ix, pe, k0, un_m1, ixS_dl ix1, list_rowD, ll]
  · have st1 : evSs (run Ga (n + 1)) Ga.gl lkBody [some q, some (.d (.list (ls.map .str))), some (.ref 0), some (.d (.int (rows.length : Int))), y] [dl (rows.map rowD)] =
        evSs (run Ga (n + 1)) Ga.gl lkRest [some q, some (.d (.list (ls.map .str))), some (.ref 0), some (.d (.int (rows.length : Int))), some (.d (rowD ((luGo 0 (parts p)).getD [])))] [dl (rows.map rowD)] := by
      have pc : pcall (run Ga (n + 1)) "_law_unpacked" [.d (.str p)] = M.pure (rowD ((luGo 0 (parts p)).getD [])) := pcall1 (law_unpacked_run n p hp ha [])
      have lb : lkBody = [.ite (.and (.cmp .Eq (.idx (.var 1) (.var 3)) (.con (.str [61]))) (.cmp .Gt (.var 3) (.con (.int 0)))) [.expr (.app (.var 2) (.bi false .list [(.idx (.var 2) (.un .USub (.con (.int 1))))]))] (.asg (.name 4) (.call false "_law_unpacked" [(.idx (.var 1) (.var 3))]) :: lkRest)] := rfl
      rw [lb]
      generalize lkRest = rest
      by_cases pe : p = [61]
      · have r0 : rows = [] := Classical.byContradiction fun z => hn ⟨pe, z⟩
        have k0 : ¬ 0 < rows.length := by rw [r0]; simp
        simp [ix, pe, k0, andS_nil]
        rw [← pe, pc]
        simp
      · simp [ix, pe, pc, andS_nil]
    rw [st1, lk_rest (n + 1) q ls rows _ hl]
    have le := lk_eq R p hn
    cases hr : pkRow rows p with
    | none =>
      rw [hr] at le
      dsimp only at le
      rw [le]
      exact ⟨_, _, rfl⟩
    | some r =>
      rw [hr] at le
      obtain ⟨e1, e2⟩ := le
      rw [← e1, e2]
      dsimp only
      cases ok : okAt rows p r with
      | true => exact ⟨_, rfl⟩
      | false => exact ⟨_, _, rfl⟩
theorem lk_loop (n : Nat) (q : W) (ls : List T) (hs : ∀ p ∈ ls, p.length ≤ 15000 ∧ Asc p) (hn : ls.length ≤ 100001) : ∀ (ps : List T) (rows : List (List Nat)) (x y : Option W), Rows01 rows → ls.drop rows.length = ps →
    match pkGo rows ps with
    | .rows R => ∃ x' y', forLoop (forBody (.name 3) (evSs (run Ga (n + 1)) Ga.gl lkBody)) ((List.range' rows.length ps.length).map nD) [some q, some (.d (.list (ls.map .str))), some (.ref 0), x, y] [dl (rows.map rowD)] = .ok .next [some q, some (.d (.list (ls.map .str))), some (.ref 0), x', y'] [dl (R.map rowD)]
    | .bad k => ∃ ρ st, forLoop (forBody (.name 3) (evSs (run Ga (n + 1)) Ga.gl lkBody)) ((List.range' rows.length ps.length).map nD) [some q, some (.d (.list (ls.map .str))), some (.ref 0), x, y] [dl (rows.map rowD)] = .ok (.ret (.d (rdV (.bad k)))) ρ st
  | [], rows, x, y, _, _ => ⟨x, y, by simp [forLoop]⟩
  | p :: ps, rows, x, y, R0, hd => by
    have hk : ls[rows.length]? = some p := by
      have := congrArg (fun l => l[0]?) hd
      simpa using this
    have lt : rows.length < ls.length := (List.getElem?_eq_some_iff.mp hk).1
    obtain ⟨h1, h2⟩ := hs p (List.mem_of_getElem? hk)
    have st := lk_step n q ls rows R0 p x y hk h1 h2 (by omega)
    rw [List.length_cons, List.range'_succ, List.map_cons]
    cases hr : pkRow rows p with
    | none =>
      rw [hr] at st
      obtain ⟨ρ, s2, e2⟩ := st
      have g : pkGo rows (p :: ps) = .bad rows.length := by rw [pkGo, hr]
      rw [g]
      refine ⟨ρ, s2, ?_⟩
      rw [forLoop, e2]
    | some r =>
      rw [hr] at st
      have st : (if okAt rows p r then _ else _) := st
      cases ok : okAt rows p r with
      | false =>
        rw [ok] at st
        obtain ⟨ρ, s2, e2⟩ := st
        have g : pkGo rows (p :: ps) = .bad rows.length := by
          rw [pkGo, hr]
          show (if okAt rows p r then pkGo (rows ++ [r]) ps else .bad rows.length) = _
          rw [ok]
          rfl
        rw [g]
        refine ⟨ρ, s2, ?_⟩
        rw [forLoop, e2]
      | true =>
        rw [ok, if_pos rfl] at st
        obtain ⟨y1, st⟩ := st
        have ih := lk_loop n q ls hs hn ps (rows ++ [r]) (some (.d (.int (rows.length : Int)))) y1 (R0.push hr ok) (by
          rw [List.length_append, List.length_singleton, ← List.drop_drop, hd]
          rfl)
        have el : (rows ++ [r]).length = rows.length + 1 := by simp
        rw [el] at ih
        have g : pkGo rows (p :: ps) = pkGo (rows ++ [r]) ps := by
          rw [pkGo, hr]
          show (if okAt rows p r then pkGo (rows ++ [r]) ps else .bad rows.length) = _
          rw [ok]
          rfl
        rw [g]
        cases hg : pkGo (rows ++ [r]) ps with
        | rows R =>
          rw [hg] at ih
          obtain ⟨x', y', e2⟩ := ih
          refine ⟨x', y', ?_⟩
          rw [forLoop, st]
          exact e2
        | bad k =>
          rw [hg] at ih
          obtain ⟨ρ, s2, e2⟩ := ih
          refine ⟨ρ, s2, ?_⟩
          rw [forLoop, st]
          exact e2
theorem asc_lines {t p : T} (ha : Asc t) (hp : p ∈ lines t) : Asc p := fun c hc => ha c (split_mem hp c hc)
theorem law_read_packed_run (n : Nat) (t : T) (h : t.length ≤ 15000) (ha : Asc t) : pcall (run Ga (n + 2)) "_law_read_packed" [.d (.str t)] = M.pure (rdV (readK t)) := by
  obtain ⟨l1, l2⟩ := lines_len (t := t) (by omega)
  have ne : lines t ≠ [] := split_ne 10 t
  have sp : mtD .split (.str t) [.str [10]] = some (.list ((lines t).map .str)) := split_E (by decide) (by omega)
  have lp := lk_loop n (.d (.str t)) (lines t) (fun p hp => ⟨by have := split_len hp; omega, asc_lines ha hp⟩) l1 (lines t) [] none none Rows01.nil rfl
  have rg : rangeD [.int ((lines t).length : Int)] = some ((List.range' 0 (lines t).length).map nD) := by
    rw [range1' (by omega), List.range_eq_range']
  unfold readK
  have l0 : ([] : List (List Nat)).length = 0 := rfl
  rw [l0] at lp
  have dn : [dl (([] : List (List Nat)).map rowD)] = [dl []] := rfl
  rw [dn] at lp
  simp only [lkBody, b_law_read_packed] at lp
  cases hb : pkGo [] (lines t) with
  | bad k =>
    rw [hb] at lp
    obtain ⟨ρ, st, e⟩ := lp
    have go : run Ga (n + 2) "_law_read_packed" [.d (.str t)] [] = .ok (.d (rdV (.bad k))) st := by
      rw [run_fn f_lrk rfl]
      simp [b_law_read_packed, sp, rg, -range1_E]
      rw [e]
      simp
    exact pcall1 go
  | rows R =>
    rw [hb] at lp
    obtain ⟨x, y, e⟩ := lp
    obtain ⟨ro, rl⟩ := pkGo_rows Rows01.nil hb
    have rl : R.length = (lines t).length := by simpa using rl
    dsimp only
    by_cases hc : R.length ≤ 300
    · rw [if_pos hc]
      have c1 : ¬ (300 : Int) < ((lines t).length : Int) := by omega
      have go : run Ga (n + 2) "_law_read_packed" [.d (.str t)] [] = .ok (.ref 0) [dl (R.map rowD)] := by
        rw [run_fn f_lrk rfl]
        simp [b_law_read_packed, sp, rg, -range1_E]
        rw [e]
        simp [c1]
      exact pcall_ds (xs := [.str t]) go (freeze_dl rfl)
    · rw [if_neg hc]
      have c1 : (300 : Int) < ((lines t).length : Int) := by omega
      have go : run Ga (n + 2) "_law_read_packed" [.d (.str t)] [] = .ok (.d (rdV (.bad (-1)))) [dl (R.map rowD)] := by
        rw [run_fn f_lrk rfl]
        simp [b_law_read_packed, sp, rg, -range1_E]
        rw [e]
        simp [c1, un_m1, rdV, RAISED]
      exact pcall1 go
end K78

namespace K78
open Cr PySem
theorem f_sp : Ga.fn "show_picture" = some b_show_picture := by kernel_rfl
theorem f_ls : Ga.fn "_law_shown" = some b_law_shown := by kernel_rfl
/-- a picture: rows of one width, numbers up to m -/
structure Pic (w m : Nat) (rows : List (List Nat)) : Prop where
  ne : rows ≠ []
  high : rows.length ≤ 300
  wide : ∀ r ∈ rows, r.length = w
  w1 : 1 ≤ w
  w2 : w ≤ 300
  most : ∀ r ∈ rows, ∀ v ∈ r, v ≤ m
def lv (v : Nat) : Nat := LV.getD v 0
theorem lv_at {v : Nat} (h : v ≤ 16) : LV[v]? = some (lv v) := by
  have : v < LV.length := by show v < 17; omega
  unfold lv
  rw [List.getD_eq_getElem?_getD, List.getElem?_eq_getElem this]
  rfl
theorem lv_all : ∀ v : Nat, v ≤ 16 → lv v ∈ LV ∧ LV.idxOf (lv v) = v ∧ lv v ≠ 10 ∧ lv v < 128 := by
  intro v h
  have : v < 17 := by omega
  revert v
  decide
def shownL (rows : List (List Nat)) : List T := rows.map fun r => r.map lv
def shownT (rows : List (List Nat)) : T := joinC [10] (shownL rows)
theorem idx_lv {v : Nat} (h : v ≤ 16) : idxD (.str LV) (.int (v : Int)) = some (.str [lv v]) := idx_strE (by decide) (lv_at h)
theorem sum_len {w : Nat} : ∀ {ps : List (List Nat)}, (∀ p ∈ ps, p.length ≤ w) → (ps.map (·.length)).sum ≤ ps.length * w
  | [], _ => by simp
  | p :: ps, h => by
    have := sum_len (ps := ps) fun q hq => h q (by simp [hq])
    have := h p (by simp)
    rw [List.map_cons, List.sum_cons, List.length_cons, Nat.add_mul, Nat.one_mul]
    omega
theorem join_ok {sep : T} {ps : List T} {w : Nat} (h : ∀ p ∈ ps, p.length ≤ w) (hb : ps.length * w + ps.length * sep.length ≤ 16777216) : mtD .join (.str sep) [.list (ps.map .str)] = some (.str (joinC sep ps)) :=
  join_E (by have := sum_len h; omega)
theorem join_row {r : List Nat} (h : r.length ≤ 10000) : mtD .join (.str []) [.list (r.map fun v => .str [lv v])] = some (.str (r.map lv)) := by
  have e : (r.map fun v => D.str [lv v]) = (r.map fun v => [lv v]).map .str := by rw [List.map_map]; rfl
  rw [e, join_ok (w := 1) (fun p hp => by obtain ⟨v, _, rfl⟩ := List.mem_map.mp hp; simp) (by simp; omega), joinC_nil]
  congr 2
  clear h e
  induction r with
  | nil => rfl
  | cons v r ih => simp [ih]
theorem shown_lc {run' : Str → List W → M W} {w : Nat} {rows : List (List Nat)} (P : Pic w 16 rows) (body : D → M (Option D)) (hb : ∀ r ∈ rows, body (rowD r) = M.pure (some (.str (r.map lv)))) : lcLoop body (rows.map rowD) [] = M.pure ((shownL rows).map .str) := by
  have := lc_g rowD (fun r => .str (r.map lv)) hb (by have := P.high; omega)
  rw [this]
  unfold shownL
  rw [List.map_map]
  rfl
theorem shown_join {w : Nat} {rows : List (List Nat)} (P : Pic w 16 rows) : mtD .join (.str [10]) [.list ((shownL rows).map .str)] = some (.str (shownT rows)) :=
  join_ok (w := 300) (fun p hp => by
    obtain ⟨r, hr, rfl⟩ := List.mem_map.mp hp
    rw [List.length_map, P.wide r hr]
    exact P.w2) (by
    have : (shownL rows).length = rows.length := by simp [shownL]
    have := P.high
    simp
    omega)
theorem show_picture_run (n : Nat) {w : Nat} {rows : List (List Nat)} (P : Pic w 16 rows) (s : Store) : run Ga (n + 1) "show_picture" [.d (picD rows)] s = .ok (.d (.str (shownT rows))) s := by
  have pD : picD rows = .list (rows.map rowD) := rfl
  rw [run_fn f_sp rfl, pD]
  simp [b_show_picture]
  rw [shown_lc (run' := run Ga n) P _ (fun r hr => by
    have wr := P.wide r hr
    have := P.w2
    simp [lcBody_eq, rowD]
    rw [lc_g nD (fun v => .str [lv v]) (fun v hv => by
      have := P.most r hr v hv
      simp [lcBody_eq, g_LV, idx_lv this]) (by omega)]
    simp [join_row (r := r) (by omega)])]
  simp [shown_join P]
theorem law_shown_run (n : Nat) {w : Nat} {rows : List (List Nat)} (P : Pic w 16 rows) (s : Store) : run Ga (n + 1) "_law_shown" [.d (picD rows)] s = .ok (.d (.str (shownT rows))) s := by
  have pD : picD rows = .list (rows.map rowD) := rfl
  rw [run_fn f_ls rfl, pD]
  simp only [b_law_shown, LVc]
  simp
  rw [shown_lc (run' := run Ga n) P _ (fun r hr => by
    have wr := P.wide r hr
    have := P.w2
    simp [lcBody_eq, rowD]
    rw [lc_g nD (fun v => .str [lv v]) (fun v hv => by
      have := P.most r hr v hv
      simp [lcBody_eq, idx_lv this]) (by omega)]
    simp [join_row (r := r) (by omega)])]
  simp [shown_join P]
theorem shown_lines {w : Nat} {rows : List (List Nat)} (P : Pic w 16 rows) : lines (shownT rows) = shownL rows := TL.spl_join (by unfold shownL; simpa using P.ne) fun p hp => by
  obtain ⟨r, hr, rfl⟩ := List.mem_map.mp hp
  intro h
  obtain ⟨v, hv, e⟩ := List.mem_map.mp h
  exact (lv_all v (P.most r hr v hv)).2.2.1 e
theorem shown_row {r : List Nat} (h : ∀ v ∈ r, v ≤ 16) (h1 : 1 ≤ r.length) : okRow (r.map lv) = true ∧ rowOf (r.map lv) = r := by
  constructor
  · unfold okRow
    have : (r.map lv).isEmpty = false := by
      cases r with
      | nil => simp at h1
      | cons _ _ => rfl
    rw [this, List.all_map]
    exact List.all_eq_true.mpr fun v hv => decide_eq_true (lv_all v (h v hv)).1
  · unfold rowOf
    rw [List.map_map]
    conv => rhs; rw [← List.map_id r]
    exact List.map_congr_left fun v hv => (lv_all v (h v hv)).2.1
theorem firstBad_ok {w : Nat} : ∀ {ps : List T} {k : Nat}, (∀ p ∈ ps, okRow p = true ∧ p.length = w) → firstBad w k ps = none
  | [], _, _ => rfl
  | p :: ps, k, h => by
    unfold firstBad
    obtain ⟨a, b⟩ := h p (by simp)
    rw [if_pos (by rw [a, decide_eq_true b]; rfl)]
    exact firstBad_ok fun q hq => h q (by simp [hq])
theorem readP_shown {w : Nat} {rows : List (List Nat)} (P : Pic w 16 rows) : readP (shownT rows) = .rows rows := by
  have sl := shown_lines P
  have wd : wid (shownT rows) = w := by
    unfold wid
    rw [sl]
    obtain ⟨r, rest, e⟩ : ∃ r rest, rows = r :: rest := by
      cases e : rows with
      | nil => exact absurd e P.ne
      | cons a b => exact ⟨a, b, rfl⟩
    rw [e]
    show (r.map lv).length = w
    rw [List.length_map]
    exact P.wide r (by rw [e]; simp)
  have fb : firstBad w 0 (shownL rows) = none := firstBad_ok fun p hp => by
    obtain ⟨r, hr, rfl⟩ := List.mem_map.mp hp
    have := P.wide r hr
    refine ⟨(shown_row (P.most r hr) (by have := P.w1; omega)).1, by rw [List.length_map]; exact this⟩
  unfold readP
  rw [sl, wd, fb]
  have hl : (shownL rows).length = rows.length := by simp [shownL]
  dsimp only
  rw [if_pos ⟨by rw [hl]; exact P.high, P.w2⟩]
  unfold rowsOf
  rw [sl]
  congr 1
  unfold shownL
  rw [List.map_map]
  conv => rhs; rw [← List.map_id rows]
  exact List.map_congr_left fun r hr => (shown_row (P.most r hr) (by have := P.wide r hr; have := P.w1; omega)).2
theorem joinC_len {sep : T} {w : Nat} : ∀ {ps : List T}, (∀ p ∈ ps, p.length ≤ w) → (joinC sep ps).length ≤ ps.length * (w + sep.length)
  | [], _ => by simp [joinC, TL.joinL]
  | [p], h => by
    have := h p (by simp)
    have e : joinC sep [p] = p := rfl
    rw [e]
    simp
    omega
  | p :: q :: r, h => by
    have ih := joinC_len (sep := sep) (ps := q :: r) fun x hx => h x (by simp [hx])
    have := h p (by simp)
    have e : joinC sep (p :: q :: r) = p ++ (sep ++ joinC sep (q :: r)) := by
      show TL.joinL sep (p :: q :: r) = _
      rw [TL.joinL]
      first
        | rfl
        | rw [List.append_assoc]
        | simp [joinC]
    rw [e, List.length_append, List.length_append, List.length_cons, Nat.add_mul, Nat.one_mul]
    omega
theorem joinC_mem {sep : T} : ∀ {ps : List T} {c : Nat}, c ∈ joinC sep ps → c ∈ sep ∨ ∃ p ∈ ps, c ∈ p
  | [], c, h => by
    have h : c ∈ ([] : T) := h
    cases h
  | [p], c, h => .inr ⟨p, by simp, h⟩
  | p :: q :: r, c, h => by
    have e : joinC sep (p :: q :: r) = p ++ (sep ++ joinC sep (q :: r)) := by
      show TL.joinL sep (p :: q :: r) = _
      rw [TL.joinL]
      first
        | rfl
        | rw [List.append_assoc]
        | simp [joinC]
    rw [e] at h
    rcases List.mem_append.mp h with h | h
    · exact .inr ⟨p, by simp, h⟩
    · rcases List.mem_append.mp h with h | h
      · exact .inl h
      · rcases joinC_mem h with h | ⟨x, hx, hc⟩
        · exact .inl h
        · exact .inr ⟨x, by simp [hx], hc⟩
theorem shown_ok {w : Nat} {rows : List (List Nat)} (P : Pic w 16 rows) : (shownT rows).length ≤ rows.length * (w + 1) ∧ Asc (shownT rows) := by
  have l : (shownL rows).length = rows.length := by simp [shownL]
  have e := joinC_len (sep := [10]) (ps := shownL rows) (w := w) fun p hp => by
    obtain ⟨r, hr, rfl⟩ := List.mem_map.mp hp
    rw [List.length_map, P.wide r hr]
    exact Nat.le_refl _
  rw [l] at e
  refine ⟨e, fun c hc => ?_⟩
  rcases joinC_mem hc with h | ⟨p, hp, hc⟩
  · have : c = 10 := by simpa using h
    omega
  · obtain ⟨r, hr, rfl⟩ := List.mem_map.mp hp
    obtain ⟨v, hv, rfl⟩ := List.mem_map.mp hc
    have := (lv_all v (P.most r hr v hv)).2.2.2
    omega
end K78

namespace K78
open Cr PySem
theorem f_pr : Ga.fn "packed_row" = some b_packed_row := by kernel_rfl
theorem f_lpr : Ga.fn "_law_packed_row" = some b_law_packed_row := by kernel_rfl
/-- runs so far, the last apart -/
def prStep (st : List Nat × Nat) (v : Nat) : List Nat × Nat := if v = st.1.length % 2 then (st.1, st.2 + 1) else (st.1 ++ [st.2], 1)
def prGo (r : List Nat) : List Nat × Nat := r.foldl prStep ([], 0)
def runs (r : List Nat) : List Nat := (prGo r).1 ++ [(prGo r).2]
def prT (r : List Nat) : T := joinC [32] ((runs r).map TL.numL)
theorem ixN_last (k : Nat) : L2.ixN (k + 1) (-1) = some k := by
  unfold L2.ixN
  rw [if_neg (by decide), if_pos (by omega)]
  congr 1
  omega
theorem set_last {α : Type} (xs : List α) (x y : α) : (xs ++ [x]).set xs.length y = xs ++ [y] := by
  rw [List.set_append_right _ _ (Nat.le_refl _), Nat.sub_self]
  rfl
theorem atI_wl (A : List D) (x : D) : L2.atI (wsD (A ++ [x])) (-1) = some (.d x) := atI_ws (L2.atI_last A x)
def prBody : List S := match b_packed_row.body with
  | [_, _, .for _ _ b, _] => b
  | _ => []
theorem aug_int (a b : Int) : augD .Add (.int a) (.int b) = some (.int (a + b)) := rfl
theorem pr_step (n : Nat) (q : W) (st : List Nat × Nat) (v : Nat) (y z : Option W) (hv : v ≤ 1) (hl : st.1.length < 100000) :
    forBody (.name 3) (evSs (run Ga n) Ga.gl prBody) (nD v) [some q, some (.ref 0), some (.d (.int ((st.1.length % 2 : Nat) : Int))), y, z] [dl ((st.1 ++ [st.2]).map nD)] =
      .ok .next [some q, some (.ref 0), some (.d (.int (((prStep st v).1.length % 2 : Nat) : Int))), some (.d (nD v)), z] [dl (((prStep st v).1 ++ [(prStep st v).2]).map nD)] := by
  obtain ⟨ini, a⟩ := st
  have a1 := atI_wl (ini.map nD) (nD a)
  have a2 := atI_wl (ini.map nD ++ [nD a]) (.int 0)
  have i1 := ixN_last ini.length
  have i2 := ixN_last (ini.length + 1)
  have s1 := set_last (ini.map nD) (nD a) (.int ((a : Int) + 1))
  have s2 := set_last (ini.map nD ++ [nD a]) (.int 0) (.int 1)
  have ll : ini.length + 1 < 16777216 := by simp at hl; omega
  simp only [List.length_map, List.length_append, List.length_singleton] at s1 s2
  unfold forBody prStep
  simp only [bindPt_name, setVar_s, setVar_0]
  by_cases h : v = ini.length % 2
  · have h' : (v : Int) = ((ini.length % 2 : Nat) : Int) := by omega
    generalize hk : ini.length % 2 = m at h h' ⊢
    simp [prBody, b_packed_row, h', h, un_m1, a1, i1, s1, aug_int]
    exact ⟨by omega, rfl⟩
  · have h' : ¬ (v : Int) = ((ini.length % 2 : Nat) : Int) := by omega
    have hm : (ini.length + 1) % 2 = v := by omega
    generalize hk : ini.length % 2 = m at h h' ⊢
    simp only [List.append_assoc, List.cons_append, List.nil_append] at a2 s2
    simp [prBody, b_packed_row, h', h, un_m1, a2, i2, s2, aug_int, ll, hm]
    rfl
theorem prStep_len (st : List Nat × Nat) (v : Nat) : (prStep st v).1.length ≤ st.1.length + 1 := by
  unfold prStep
  split <;> simp
theorem pr_loop (n : Nat) (q : W) : ∀ (r : List Nat) (st : List Nat × Nat) (y z : Option W), (∀ v ∈ r, v ≤ 1) → st.1.length + r.length < 100000 →
    ∃ y', forLoop (forBody (.name 3) (evSs (run Ga n) Ga.gl prBody)) (r.map nD) [some q, some (.ref 0), some (.d (.int ((st.1.length % 2 : Nat) : Int))), y, z] [dl ((st.1 ++ [st.2]).map nD)] =
      .ok .next [some q, some (.ref 0), some (.d (.int (((r.foldl prStep st).1.length % 2 : Nat) : Int))), y', z] [dl (((r.foldl prStep st).1 ++ [(r.foldl prStep st).2]).map nD)]
  | [], st, y, z, _, _ => ⟨y, by simp [forLoop]⟩
  | v :: r, st, y, z, h, hl => by
    have hl : st.1.length + (r.length + 1) < 100000 := hl
    have e := pr_step n q st v y z (h v (by simp)) (by omega)
    have pl := prStep_len st v
    obtain ⟨y', e2⟩ := pr_loop n q r (prStep st v) (some (.d (nD v))) z (fun u hu => h u (by simp [hu])) (by omega)
    refine ⟨y', ?_⟩
    rw [List.map_cons, forLoop, e]
    exact e2
theorem str_nat {v : Nat} (h : v < 10 ^ 18) : biD .str [nD v] = some (.str (TL.numL v)) := by
  show (strOfInt (v : Int)).map D.str = _
  unfold strOfInt
  have lg : (v : Int).natAbs.log2 < 1920 := by
    rw [Int.natAbs_natCast]
    by_cases h0 : v = 0
    · rw [h0]
      decide
    · rw [Nat.log2_lt h0]
      exact Nat.lt_trans h (by decide)
  have e : intStr (v : Int) = TL.numL v := TL.tl_num v
  rw [decide_eq_true lg, if_pos rfl, e]
  rfl
theorem prStep_le {M : Nat} {st : List Nat × Nat} {v : Nat} (h1 : ∀ a ∈ st.1, a ≤ M) (h2 : st.2 + 1 ≤ M + 1) (hm : 1 ≤ M + 1) : (∀ a ∈ (prStep st v).1, a ≤ M + 1) ∧ (prStep st v).2 ≤ M + 1 := by
  unfold prStep
  split
  · exact ⟨fun a ha => Nat.le_succ_of_le (h1 a ha), h2⟩
  · refine ⟨fun a ha => ?_, hm⟩
    rcases List.mem_append.mp ha with ha | ha
    · exact Nat.le_succ_of_le (h1 a ha)
    · have : a = st.2 := by simpa using ha
      omega
theorem pr_le : ∀ (r : List Nat) (st : List Nat × Nat) (M : Nat), (∀ a ∈ st.1, a ≤ M) → st.2 ≤ M → (∀ a ∈ (r.foldl prStep st).1, a ≤ M + r.length) ∧ (r.foldl prStep st).2 ≤ M + r.length
  | [], st, M, h1, h2 => ⟨h1, h2⟩
  | v :: r, st, M, h1, h2 => by
    obtain ⟨a1, a2⟩ := prStep_le (v := v) h1 (by omega) (by omega)
    obtain ⟨b1, b2⟩ := pr_le r (prStep st v) (M + 1) a1 a2
    rw [List.foldl_cons, List.length_cons]
    exact ⟨fun a ha => by have := b1 a ha; omega, by omega⟩
theorem runs_le (r : List Nat) : (∀ a ∈ runs r, a ≤ r.length) ∧ (runs r).length ≤ r.length + 1 := by
  obtain ⟨a1, a2⟩ := pr_le r ([], 0) 0 (fun a h => by cases h) (Nat.le_refl _)
  refine ⟨fun a ha => ?_, ?_⟩
  · unfold runs prGo at ha
    rcases List.mem_append.mp ha with ha | ha
    · have := a1 a ha; omega
    · have : a = (r.foldl prStep ([], 0)).2 := by simpa using ha
      omega
  · have : ∀ (r : List Nat) (st : List Nat × Nat), (r.foldl prStep st).1.length ≤ st.1.length + r.length := by
      intro r
      induction r with
      | nil => intro st; simp
      | cons v r ih =>
        intro st
        have := ih (prStep st v)
        have := prStep_len st v
        rw [List.foldl_cons, List.length_cons]
        omega
    have := this r ([], 0)
    unfold runs prGo
    rw [List.length_append, List.length_singleton]
    simp at this
    omega
theorem numL_18 {v : Nat} (h : v < 10 ^ 18) : (TL.numL v).length ≤ 18 := TL.numL_len (by decide) h
theorem runs_join {r : List Nat} (h : r.length ≤ 10000) : mtD .join (.str [32]) [.list ((runs r).map fun v => .str (TL.numL v))] = some (.str (prT r)) := by
  obtain ⟨a, b⟩ := runs_le r
  have e : ((runs r).map fun v => D.str (TL.numL v)) = ((runs r).map TL.numL).map .str := by rw [List.map_map]; rfl
  rw [e]
  exact join_ok (w := 18) (fun p hp => by
    obtain ⟨v, hv, rfl⟩ := List.mem_map.mp hp
    have := a v hv
    exact numL_18 (Nat.lt_of_le_of_lt (Nat.le_trans this h) (by decide))) (by simp; omega)
theorem runs_lc {r : List Nat} (h : r.length ≤ 10000) {body : D → M (Option D)} (hb : ∀ v, v < 10 ^ 18 → body (nD v) = M.pure (some (.str (TL.numL v)))) : lcLoop body ((runs r).map nD) [] = M.pure ((runs r).map fun v => .str (TL.numL v)) := by
  obtain ⟨a, b⟩ := runs_le r
  exact lc_g nD (fun v => .str (TL.numL v)) (fun v hv => hb v (Nat.lt_of_le_of_lt (Nat.le_trans (a v hv) h) (by decide))) (by omega)
theorem packed_row_run (n : Nat) (r : List Nat) (hv : ∀ v ∈ r, v ≤ 1) (hl : r.length ≤ 10000) : ∃ st, run Ga (n + 1) "packed_row" [.d (rowD r)] [] = .ok (.d (.str (prT r))) st := by
  obtain ⟨y', e⟩ := pr_loop n (.d (rowD r)) r ([], 0) none none hv (by simp; omega)
  have e : forLoop _ _ _ [dl [.int 0]] = SR.ok Cr.Flow.next _ [dl ((runs r).map nD)] := e
  simp only [prBody, b_packed_row] at e
  refine ⟨[.frz (.list ((runs r).map nD))], ?_⟩
  have rD : rowD r = .list (r.map nD) := rfl
  rw [run_fn f_pr rfl]
  rw [rD] at e ⊢
  simp [b_packed_row]
  have e : forLoop _ _ [some (.d (.list (r.map nD))), some (.ref 0), some (.d (.int 0)), none, none] [dl [.int 0]] = _ := e
  rw [e]
  simp
  rw [exM_bind (freeze_dl (n := 0) (xs := (runs r).map nD) rfl)]
  simp
  rw [runs_lc hl (fun v h => by simp [lcBody_eq, str_nat h])]
  simp [runs_join hl]
end K78

namespace K78
open Cr PySem
theorem f_skp : Ga.fn "show_packed" = some b_show_packed := by kernel_rfl
theorem f_lkp : Ga.fn "_law_packed" = some b_law_packed := by kernel_rfl
def lprBody : List S := match b_law_packed_row.body with
  | [_, .for _ _ b, _] => b
  | _ => []
theorem lpr_step (n : Nat) (r : List Nat) (st : List Nat × Nat) (k v : Nat) (y z : Option W) (hk : r[k]? = some v) (hv : v ≤ 1) (hl : st.1.length < 100000) :
    forBody (.name 2) (evSs (run Ga n) Ga.gl lprBody) (nD k) [some (.d (rowD r)), some (.ref 0), y, z] [dl ((st.1 ++ [st.2]).map nD)] =
      .ok .next [some (.d (rowD r)), some (.ref 0), some (.d (nD k)), z] [dl (((prStep st v).1 ++ [(prStep st v).2]).map nD)] := by
  obtain ⟨ini, a⟩ := st
  have ix : idxD (rowD r) (.int (k : Int)) = some (nD v) := idx_listE (by rw [List.getElem?_map, hk]; rfl)
  have a1 := atI_wl (ini.map nD) (nD a)
  have b1 : L2.atI (ini.map nD ++ [nD a]) (-1) = some (nD a) := L2.atI_last _ _
  have b2 : L2.atI (ini.map nD ++ [nD a] ++ [.int 0]) (-1) = some (.int 0) := L2.atI_last _ _
  have i1 := ixN_last ini.length
  have i2 := ixN_last (ini.length + 1)
  have s1 := set_last (ini.map nD) (nD a) (.int ((a : Int) + 1))
  have s2 := set_last (ini.map nD ++ [nD a]) (.int 0) (.int 1)
  have ll : ini.length + 1 < 16777216 := by simp at hl; omega
  simp only [List.length_map, List.length_append, List.length_singleton] at s1 s2
  have md : binD .Mod (.int ((ini.length : Int))) (.int 2) = some (.int ((ini.length % 2 : Nat) : Int)) := by
    rw [mod_int' (by decide)]
    rfl
  unfold forBody prStep
  simp only [bindPt_name, setVar_s, setVar_0]
  by_cases h : v = ini.length % 2
  · have h' : (v : Int) = ((ini.length % 2 : Nat) : Int) := by omega
    generalize hk : ini.length % 2 = m at h h' md ⊢
    simp [lprBody, b_law_packed_row, ix, md, h', h, un_m1, ixS_dl b1, i1, s1]
    rfl
  · have h' : ¬ (v : Int) = ((ini.length % 2 : Nat) : Int) := by omega
    generalize hk : ini.length % 2 = m at h h' md ⊢
    simp only [List.append_assoc, List.cons_append, List.nil_append] at b2 s2
    simp [lprBody, b_law_packed_row, ix, md, h', h, un_m1, ixS_dl b2, i2, s2, ll]
    rfl
theorem lpr_loop (n : Nat) (r0 : List Nat) (hv : ∀ v ∈ r0, v ≤ 1) : ∀ (r : List Nat) (k : Nat) (st : List Nat × Nat) (y z : Option W), r0.drop k = r → st.1.length + r.length < 100000 →
    ∃ y', forLoop (forBody (.name 2) (evSs (run Ga n) Ga.gl lprBody)) ((List.range' k r.length).map nD) [some (.d (rowD r0)), some (.ref 0), y, z] [dl ((st.1 ++ [st.2]).map nD)] =
      .ok .next [some (.d (rowD r0)), some (.ref 0), y', z] [dl (((r.foldl prStep st).1 ++ [(r.foldl prStep st).2]).map nD)]
  | [], k, st, y, z, _, _ => ⟨y, by simp [forLoop]⟩
  | v :: r, k, st, y, z, hd, hl => by
    have hl : st.1.length + (r.length + 1) < 100000 := hl
    have hk : r0[k]? = some v := by
      have := congrArg (fun l => l[0]?) hd
      simpa using this
    have e := lpr_step n r0 st k v y z hk (hv v (List.mem_of_getElem? hk)) (by omega)
    have pl := prStep_len st v
    obtain ⟨y', e2⟩ := lpr_loop n r0 hv r (k + 1) (prStep st v) (some (.d (nD k))) z (by rw [← List.drop_drop, hd]; rfl) (by omega)
    refine ⟨y', ?_⟩
    rw [List.length_cons, List.range'_succ, List.map_cons, forLoop, e]
    exact e2
theorem law_packed_row_run (n : Nat) (r : List Nat) (hv : ∀ v ∈ r, v ≤ 1) (hl : r.length ≤ 10000) : ∃ st, run Ga (n + 1) "_law_packed_row" [.d (rowD r)] [] = .ok (.d (.str (prT r))) st := by
  obtain ⟨y', e⟩ := lpr_loop n r hv r 0 ([], 0) none none rfl (by simp; omega)
  have e : forLoop _ _ _ [dl [.int 0]] = SR.ok Cr.Flow.next _ [dl ((runs r).map nD)] := e
  simp only [lprBody, b_law_packed_row] at e
  have rg : rangeD [.int (r.length : Int)] = some ((List.range' 0 r.length).map nD) := by
    rw [range1' (by omega), List.range_eq_range']
  refine ⟨[.frz (.list ((runs r).map nD))], ?_⟩
  have rD : rowD r = .list (r.map nD) := rfl
  rw [run_fn f_lpr rfl]
  rw [rD] at e ⊢
  simp [b_law_packed_row, rg, -range1_E]
  rw [e]
  simp
  rw [exM_bind (freeze_dl (n := 0) (xs := (runs r).map nD) rfl)]
  simp
  rw [runs_lc hl (fun v h => by simp [lcBody_eq, str_nat h])]
  simp [runs_join hl]
def pkL : Option (List Nat) → List (List Nat) → List T
  | _, [] => []
  | o, r :: rs => (if o = some r then [61] else prT r) :: pkL (some r) rs
def packT (rows : List (List Nat)) : T := joinC [10] (pkL none rows)
theorem pkL_snoc : ∀ (o : Option (List Nat)) (rs : List (List Nat)) (r : List Nat), pkL o (rs ++ [r]) = pkL o rs ++ [if (match rs.getLast? with | some x => some x | none => o) = some r then [61] else prT r]
  | o, [], r => rfl
  | o, x :: rs, r => by
    show (if o = some x then [61] else prT x) :: pkL (some x) (rs ++ [r]) = _
    rw [pkL_snoc (some x) rs r]
    show _ = (if o = some x then [61] else prT x) :: (pkL (some x) rs ++ _)
    congr 2
    cases rs with
    | nil => rfl
    | cons a b =>
      rw [show (x :: a :: b).getLast? = (a :: b).getLast? from List.getLast?_cons_cons]
      cases h : (a :: b).getLast? with
      | none => simp at h
      | some z => rfl
theorem pkL_len : ∀ (o : Option (List Nat)) (rs : List (List Nat)), (pkL o rs).length = rs.length
  | _, [] => rfl
  | o, r :: rs => by simp [pkL, pkL_len (some r) rs]
theorem pkL_push (d : List (List Nat)) (r : List Nat) : pkL none (d ++ [r]) = pkL none d ++ [if d.getLast? = some r then [61] else prT r] := by
  rw [pkL_snoc]
  cases d.getLast? <;> rfl
def skBody : List S := match b_show_packed.body with
  | [_, .for _ _ b, _] => b
  | _ => []
def enumR (k : Nat) (ps : List (List Nat)) : List D := (ps.zipIdx k).map fun p => .tup [.int (p.2 : Int), rowD p.1]
theorem enumL_R (ps : List (List Nat)) : enumL (ps.map rowD) = enumR 0 ps := by
  unfold enumL enumR
  rw [List.zipIdx_map, List.map_map]
  rfl
theorem enumR_cons (k : Nat) (p : List Nat) (ps : List (List Nat)) : enumR k (p :: ps) = .tup [.int (k : Int), rowD p] :: enumR (k + 1) ps := by
  simp [enumR]
/-- rows of 0 and 1 -/
def Bin (r : List Nat) : Prop := (∀ v ∈ r, v ≤ 1) ∧ r.length ≤ 10000
theorem strs_push (A : List T) (x : T) : dl (A.map D.str ++ [D.str x]) = dl ((A ++ [x]).map D.str) := by rw [List.map_append]; rfl
theorem ahead_ix {rows d rest : List (List Nat)} {r last : List Nat} {init : List (List Nat)} (e : rows = d ++ r :: rest) (ed : d = init ++ [last]) : idxD (picD rows) (.int (init.length : Int)) = some (rowD last) := by
  refine idx_listE ?_
  rw [List.getElem?_map, e, ed]
  simp
theorem sk_step (n : Nat) (rows d rest : List (List Nat)) (r : List Nat) (x y : Option W) (e : rows = d ++ r :: rest) (hr : Bin r) (hl : d.length < 1000000) :
    forBody (.tup [.name 2, .name 3]) (evSs (run Ga (n + 1)) Ga.gl skBody) (.tup [.int (d.length : Int), rowD r]) [some (.d (picD rows)), some (.ref 0), x, y] [dl ((pkL none d).map .str)] =
      .ok .next [some (.d (picD rows)), some (.ref 0), some (.d (.int (d.length : Int))), some (.d (rowD r))] [dl ((pkL none (d ++ [r])).map .str)] := by
  obtain ⟨st, pr⟩ := packed_row_run n r hr.1 hr.2
  have pr : pcall (run Ga (n + 1)) "packed_row" [.d (rowD r)] = M.pure (.str (prT r)) := pcall1 pr
  have ll : (pkL none d).length < 16777216 := by rw [pkL_len]; omega
  rw [pkL_push]
  generalize pkL none d = A at ll
  unfold forBody
  simp only [bindPt_tup, bindPts_cons, bindPts_nil, bindPt_name, Option.bind_some, setVar_s, setVar_0]
  rcases last_cases d with rn | ⟨init, last, rn⟩
  · subst rn
    simp [skBody, b_show_packed, pr, ll]
  · have k0 : 0 < d.length := by rw [rn]; simp
    have ix := ahead_ix e rn
    have ke : ((d.length : Int) - 1) = (init.length : Int) := by rw [rn]; simp
    have gl : d.getLast? = some last := by rw [rn, List.getLast?_concat]
    have er := eq_row r last
    rw [gl]
    by_cases c : r = last
    · rw [decide_eq_true c] at er
      rw [if_pos (by rw [c])]
      simp [skBody, b_show_packed, k0, ke, ix, er, ll]
    · rw [decide_eq_false c] at er
      rw [if_neg fun z => c (Option.some.inj z).symm]
      simp [skBody, b_show_packed, k0, ke, ix, er, ll, pr]
theorem sk_loop (n : Nat) (rows : List (List Nat)) (hb : ∀ r ∈ rows, Bin r) (hn : rows.length ≤ 100000) : ∀ (rest d : List (List Nat)) (x y : Option W), rows = d ++ rest →
    ∃ x' y', forLoop (forBody (.tup [.name 2, .name 3]) (evSs (run Ga (n + 1)) Ga.gl skBody)) (enumR d.length rest) [some (.d (picD rows)), some (.ref 0), x, y] [dl ((pkL none d).map .str)] = .ok .next [some (.d (picD rows)), some (.ref 0), x', y'] [dl ((pkL none rows).map .str)]
  | [], d, x, y, e => ⟨x, y, by rw [List.append_nil] at e; rw [e]; simp [enumR, forLoop]⟩
  | r :: rest, d, x, y, e => by
    have hd : d.length < 1000000 := by
      have := congrArg List.length e
      simp at this
      omega
    have st := sk_step n rows d rest r x y e (hb r (by rw [e]; simp)) hd
    obtain ⟨x', y', e2⟩ := sk_loop n rows hb hn rest (d ++ [r]) (some (.d (.int (d.length : Int)))) (some (.d (rowD r))) (by rw [e]; simp)
    refine ⟨x', y', ?_⟩
    rw [enumR_cons, forLoop, st]
    have el : (d ++ [r]).length = d.length + 1 := by simp
    rw [el] at e2
    exact e2
theorem prT_len {r : List Nat} (h : r.length ≤ 10000) : (prT r).length ≤ (r.length + 1) * 19 := by
  obtain ⟨a, b⟩ := runs_le r
  have := joinC_len (sep := [32]) (w := 18) (ps := (runs r).map TL.numL) fun p hp => by
    obtain ⟨v, hv, rfl⟩ := List.mem_map.mp hp
    exact numL_18 (Nat.lt_of_le_of_lt (Nat.le_trans (a v hv) h) (by decide))
  refine Nat.le_trans this ?_
  rw [List.length_map]
  exact Nat.mul_le_mul_right _ b
theorem pkL_mem : ∀ {o : Option (List Nat)} {rs : List (List Nat)} {p : T}, p ∈ pkL o rs → p = [61] ∨ ∃ r ∈ rs, p = prT r
  | o, [], p, h => by cases h
  | o, r :: rs, p, h => by
    rcases List.mem_cons.mp (show p ∈ (if o = some r then [61] else prT r) :: pkL (some r) rs from h) with h | h
    · by_cases c : o = some r
      · rw [if_pos c] at h
        exact .inl h
      · rw [if_neg c] at h
        exact .inr ⟨r, by simp, h⟩
    · rcases pkL_mem h with h | ⟨x, hx, e⟩
      · exact .inl h
      · exact .inr ⟨x, by simp [hx], e⟩
theorem pack_join {rows : List (List Nat)} {w : Nat} (P : Pic w 1 rows) : mtD .join (.str [10]) [.list ((pkL none rows).map .str)] = some (.str (packT rows)) :=
  join_ok (w := 5719) (fun p hp => by
    rcases pkL_mem hp with rfl | ⟨r, hr, rfl⟩
    · decide
    · have w2 := P.w2
      have wr := P.wide r hr
      have := prT_len (r := r) (by omega)
      have : (r.length + 1) * 19 ≤ 301 * 19 := Nat.mul_le_mul_right _ (by omega)
      omega) (by
    rw [pkL_len]
    have := P.high
    simp
    omega)
theorem Pic.bin {w : Nat} {rows : List (List Nat)} (P : Pic w 1 rows) : ∀ r ∈ rows, Bin r := fun r hr => ⟨P.most r hr, by rw [P.wide r hr]; have := P.w2; omega⟩
theorem show_packed_run (n : Nat) {w : Nat} {rows : List (List Nat)} (P : Pic w 1 rows) : ∃ st, run Ga (n + 2) "show_packed" [.d (picD rows)] [] = .ok (.d (.str (packT rows))) st := by
  obtain ⟨x, y, e⟩ := sk_loop n rows P.bin (by have := P.high; omega) rows [] none none rfl
  have e : forLoop _ (enumR 0 rows) _ [dl []] = SR.ok Cr.Flow.next _ _ := e
  rw [← enumL_R] at e
  simp only [skBody, b_show_packed] at e
  refine ⟨[dl ((pkL none rows).map .str)], ?_⟩
  have pD : picD rows = .list (rows.map rowD) := rfl
  rw [run_fn f_skp rfl]
  rw [pD] at e ⊢
  simp [b_show_packed]
  rw [e]
  simp [pack_join P]
def lkpBody : List S := match b_law_packed.body with
  | [_, .for _ _ b, _] => b
  | _ => []
theorem lkp_step (n : Nat) (rows d rest : List (List Nat)) (r : List Nat) (x : Option W) (e : rows = d ++ r :: rest) (hr : Bin r) (hl : d.length < 1000000) :
    forBody (.name 2) (evSs (run Ga (n + 1)) Ga.gl lkpBody) (.int (d.length : Int)) [some (.d (picD rows)), some (.ref 0), x] [dl ((pkL none d).map .str)] =
      .ok .next [some (.d (picD rows)), some (.ref 0), some (.d (.int (d.length : Int)))] [dl ((pkL none (d ++ [r])).map .str)] := by
  obtain ⟨st, pr⟩ := law_packed_row_run n r hr.1 hr.2
  have pr : pcall (run Ga (n + 1)) "_law_packed_row" [.d (rowD r)] = M.pure (.str (prT r)) := pcall1 pr
  have ll : (pkL none d).length < 16777216 := by rw [pkL_len]; omega
  have ir : idxD (picD rows) (.int (d.length : Int)) = some (rowD r) := idx_listE (by rw [List.getElem?_map, e]; simp)
  rw [pkL_push]
  generalize pkL none d = A at ll
  unfold forBody
  simp only [bindPt_name, setVar_s, setVar_0]
  rcases last_cases d with rn | ⟨init, last, rn⟩
  · subst rn
    have ir : idxD (picD rows) (.int 0) = some (rowD r) := ir
    simp [lkpBody, b_law_packed, pr, ll, ir]
  · have k0 : 0 < d.length := by rw [rn]; simp
    have ix := ahead_ix e rn
    have ke : ((d.length : Int) - 1) = (init.length : Int) := by rw [rn]; simp
    have gl : d.getLast? = some last := by rw [rn, List.getLast?_concat]
    have er := eq_row r last
    rw [gl]
    by_cases c : r = last
    · rw [decide_eq_true c] at er
      rw [if_pos (by rw [c])]
      simp [lkpBody, b_law_packed, k0, ke, ix, er, ll, ir]
    · rw [decide_eq_false c] at er
      rw [if_neg fun z => c (Option.some.inj z).symm]
      simp [lkpBody, b_law_packed, k0, ke, ix, er, ll, pr, ir]
theorem lkp_loop (n : Nat) (rows : List (List Nat)) (hb : ∀ r ∈ rows, Bin r) (hn : rows.length ≤ 100000) : ∀ (rest d : List (List Nat)) (x : Option W), rows = d ++ rest →
    ∃ x', forLoop (forBody (.name 2) (evSs (run Ga (n + 1)) Ga.gl lkpBody)) ((List.range' d.length rest.length).map nD) [some (.d (picD rows)), some (.ref 0), x] [dl ((pkL none d).map .str)] = .ok .next [some (.d (picD rows)), some (.ref 0), x'] [dl ((pkL none rows).map .str)]
  | [], d, x, e => ⟨x, by rw [List.append_nil] at e; rw [e]; simp [forLoop]⟩
  | r :: rest, d, x, e => by
    have hd : d.length < 1000000 := by
      have := congrArg List.length e
      simp at this
      omega
    have st := lkp_step n rows d rest r x e (hb r (by rw [e]; simp)) hd
    obtain ⟨x', e2⟩ := lkp_loop n rows hb hn rest (d ++ [r]) (some (.d (.int (d.length : Int)))) (by rw [e]; simp)
    refine ⟨x', ?_⟩
    rw [List.length_cons, List.range'_succ, List.map_cons, forLoop, st]
    have el : (d ++ [r]).length = d.length + 1 := by simp
    rw [el] at e2
    exact e2
theorem law_packed_run (n : Nat) {w : Nat} {rows : List (List Nat)} (P : Pic w 1 rows) : ∃ st, run Ga (n + 2) "_law_packed" [.d (picD rows)] [] = .ok (.d (.str (packT rows))) st := by
  obtain ⟨x, e⟩ := lkp_loop n rows P.bin (by have := P.high; omega) rows [] none rfl
  have e : forLoop _ ((List.range' 0 rows.length).map nD) _ [dl []] = SR.ok Cr.Flow.next _ _ := e
  simp only [lkpBody, b_law_packed] at e
  have rg : rangeD [.int (rows.length : Int)] = some ((List.range' 0 rows.length).map nD) := by
    rw [range1' (by have := P.high; omega), List.range_eq_range']
  refine ⟨[dl ((pkL none rows).map .str)], ?_⟩
  have pD : picD rows = .list (rows.map rowD) := rfl
  rw [run_fn f_lkp rfl]
  rw [pD] at e ⊢
  simp [b_law_packed, rg, -range1_E]
  rw [e]
  simp [pack_join P]
end K78

namespace K78
open Cr PySem
def rowN : Nat → List Nat → List Nat
  | _, [] => []
  | k, v :: l => List.replicate v (k % 2) ++ rowN (k + 1) l
theorem rowU_N : ∀ (k : Nat) (l : List Nat), rowU k (l.map TL.numL) = rowN k l
  | _, [] => rfl
  | k, v :: l => by
    show List.replicate (dv (TL.numL v)) (k % 2) ++ rowU (k + 1) (l.map TL.numL) = _
    rw [rowU_N (k + 1) l]
    have : dv (TL.numL v) = v := TL.numL_val v
    rw [this]
    rfl
theorem rowN_app : ∀ (k : Nat) (a b : List Nat), rowN k (a ++ b) = rowN k a ++ rowN (k + a.length) b
  | _, [], _ => rfl
  | k, v :: a, b => by
    show List.replicate v (k % 2) ++ rowN (k + 1) (a ++ b) = (List.replicate v (k % 2) ++ rowN (k + 1) a) ++ rowN (k + (a.length + 1)) b
    rw [rowN_app (k + 1) a b, List.append_assoc, show k + 1 + a.length = k + (a.length + 1) by omega]
theorem rowN_one (k v : Nat) : rowN k [v] = List.replicate v (k % 2) := by simp [rowN]
theorem prStep_row (st : List Nat × Nat) (v : Nat) (hv : v ≤ 1) : rowN 0 ((prStep st v).1 ++ [(prStep st v).2]) = rowN 0 (st.1 ++ [st.2]) ++ [v] := by
  unfold prStep
  split
  · rename_i h
    rw [rowN_app, rowN_app, rowN_one, rowN_one, Nat.zero_add, ← h, List.replicate_succ', List.append_assoc]
  · rename_i h
    have e : (st.1.length + 1) % 2 = v := by omega
    show rowN 0 (st.1 ++ [st.2] ++ [1]) = _
    rw [rowN_app 0 (st.1 ++ [st.2]) [1], rowN_one, List.length_append, List.length_singleton, Nat.zero_add, e]
    rfl
theorem prGo_row : ∀ (r : List Nat) (st : List Nat × Nat), (∀ v ∈ r, v ≤ 1) → rowN 0 ((r.foldl prStep st).1 ++ [(r.foldl prStep st).2]) = rowN 0 (st.1 ++ [st.2]) ++ r
  | [], st, _ => by simp
  | v :: r, st, h => by
    rw [List.foldl_cons, prGo_row r (prStep st v) fun u hu => h u (by simp [hu]), prStep_row st v (h v (by simp)), List.append_assoc]
    rfl
theorem runs_row {r : List Nat} (h : ∀ v ∈ r, v ≤ 1) : rowN 0 (runs r) = r := by
  have := prGo_row r ([], 0) h
  have e : rowN 0 (([], 0).1 ++ [(([] : List Nat), 0).2]) = [] := rfl
  rw [e, List.nil_append] at this
  exact this
def TailOk (st : List Nat × Nat) : Prop := (∀ a ∈ st.1.tail, 1 ≤ a) ∧ (st.1 ≠ [] → 1 ≤ st.2)
theorem tail_snoc {l : List Nat} {a : Nat} (h1 : ∀ x ∈ l.tail, 1 ≤ x) (h2 : l ≠ [] → 1 ≤ a) : ∀ x ∈ (l ++ [a]).tail, 1 ≤ x := by
  cases l with
  | nil => intro x hx; cases hx
  | cons b l =>
    intro x hx
    rcases List.mem_append.mp (show x ∈ l ++ [a] from hx) with hx | hx
    · exact h1 x hx
    · have : x = a := by simpa using hx
      rw [this]
      exact h2 (by simp)
theorem prStep_tail {st : List Nat × Nat} {v : Nat} (h : TailOk st) : TailOk (prStep st v) := by
  unfold prStep
  split
  · exact ⟨h.1, fun _ => Nat.succ_le_succ (Nat.zero_le _)⟩
  · exact ⟨tail_snoc h.1 h.2, fun _ => Nat.le_refl 1⟩
theorem prGo_tail : ∀ (r : List Nat) (st : List Nat × Nat), TailOk st → TailOk (r.foldl prStep st)
  | [], _, h => h
  | v :: r, st, h => prGo_tail r (prStep st v) (prStep_tail h)
theorem runs_tail (r : List Nat) : ∀ x ∈ (runs r).tail, 1 ≤ x := by
  have h := prGo_tail r ([], 0) ⟨fun a ha => (nomatch ha), fun h => absurd rfl h⟩
  exact tail_snoc h.1 h.2
theorem numL_head : ∀ n : Nat, 0 < n → ∃ c r, TL.numL n = c :: r ∧ 49 ≤ c ∧ c ≤ 57 := by
  intro n
  induction n using Nat.strongRecOn with
  | _ n ih =>
    intro h0
    by_cases h : n < 10
    · exact ⟨48 + n, [], TL.numL_lt h, by omega, by omega⟩
    · obtain ⟨c, r, e, h1, h2⟩ := ih (n / 10) (by omega) (by omega)
      exact ⟨c, r ++ [48 + n % 10], by rw [TL.numL_step (by omega), e]; rfl, h1, h2⟩
theorem runOk_num {v : Nat} (h : v ≤ 999) : runOk (TL.numL v) = true := by
  have l : (TL.numL v).length ≤ 3 := TL.numL_len (by decide) (by omega)
  have d : (TL.numL v).all dig = true := List.all_eq_true.mpr fun c hc => dig_iff.mpr (TL.numL_digits _ c hc)
  have ne : (TL.numL v).isEmpty = false := by
    have := TL.numL_ne v
    simpa using this
  unfold runOk
  rw [ne, decide_eq_true l, d]
  by_cases h0 : v = 0
  · subst h0
    rw [show TL.numL 0 = [48] from TL.numL_lt (by decide)]
    rfl
  · obtain ⟨c, r, e, h1, h2⟩ := numL_head v (by omega)
    rw [e]
    have : decide ((c :: r).head? = some 48) = false := decide_eq_false fun z => by
      have z : some c = some 48 := z
      have := Option.some.inj z
      omega
    rw [this]
    rfl
theorem prT_parts (r : List Nat) : parts (prT r) = (runs r).map TL.numL := TL.spl_join (by unfold runs; simp) fun p hp => by
  obtain ⟨v, _, rfl⟩ := List.mem_map.mp hp
  exact TL.numL_free (by decide)
theorem upk_prT {r : List Nat} (h : ∀ v ∈ r, v ≤ 1) (h1 : 1 ≤ r.length) (h2 : r.length ≤ 300) : upk (prT r) = some r := by
  obtain ⟨a, b⟩ := runs_le r
  have ro : runsOk ((runs r).map TL.numL) = true := by
    unfold runsOk
    rw [List.all_map, ← List.map_tail, List.all_map]
    have e1 : (runs r).all (runOk ∘ TL.numL) = true := List.all_eq_true.mpr fun v hv => runOk_num (by have := a v hv; omega)
    have e2 : (runs r).tail.all ((fun p => decide (1 ≤ dv p)) ∘ TL.numL) = true := List.all_eq_true.mpr fun v hv => by
      show decide (1 ≤ dv (TL.numL v)) = true
      have : dv (TL.numL v) = v := TL.numL_val v
      rw [this]
      exact decide_eq_true (runs_tail r v hv)
    rw [e1, e2]
    rfl
  unfold upk
  rw [prT_parts, ro, rowU_N, runs_row h, decide_eq_true h1, decide_eq_true h2]
  rfl
theorem prT_free (r : List Nat) : ∀ c ∈ prT r, c = 32 ∨ (48 ≤ c ∧ c ≤ 57) := fun c hc => by
  rcases joinC_mem hc with h | ⟨p, hp, h⟩
  · left
    simpa using h
  · obtain ⟨v, _, rfl⟩ := List.mem_map.mp hp
    exact .inr (TL.numL_digits v c h)
theorem prT_ne (r : List Nat) : prT r ≠ [61] := fun h => by
  have := prT_free r 61 (by rw [h]; simp)
  omega
theorem pkL_chars {o : Option (List Nat)} {rs : List (List Nat)} {p : T} (h : p ∈ pkL o rs) : ∀ c ∈ p, c = 61 ∨ c = 32 ∨ (48 ≤ c ∧ c ≤ 57) := fun c hc => by
  rcases pkL_mem h with rfl | ⟨r, _, rfl⟩
  · left
    simpa using hc
  · exact .inr (prT_free r c hc)
theorem pack_lines {rows : List (List Nat)} (h : rows ≠ []) : lines (packT rows) = pkL none rows := TL.spl_join (by
    intro e
    have := congrArg List.length e
    rw [pkL_len] at this
    exact h (List.length_eq_zero_iff.mp this)) fun p hp h => by
  have := pkL_chars hp 10 h
  omega
theorem pkGo_pack {w : Nat} : ∀ (rest d : List (List Nat)), (∀ r ∈ d ++ rest, r.length = w ∧ (∀ v ∈ r, v ≤ 1)) → 1 ≤ w → w ≤ 300 → pkGo d (pkL d.getLast? rest) = .rows (d ++ rest)
  | [], d, _, _, _ => by
    rw [List.append_nil]
    rfl
  | r :: rest, d, h, w1, w2 => by
    obtain ⟨hr, hb⟩ := h r (by simp)
    have pk : pkRow d (if d.getLast? = some r then [61] else prT r) = some r := by
      unfold pkRow
      by_cases c : d.getLast? = some r
      · rw [if_pos c, if_pos rfl, c]
      · rw [if_neg c, if_neg (prT_ne r)]
        exact upk_prT hb (by omega) (by omega)
    have ok : okAt d (if d.getLast? = some r then [61] else prT r) r = true := by
      cases d with
      | nil => rfl
      | cons r0 d =>
        show (decide (r.length = r0.length) && _) = true
        have := (h r0 (by simp)).1
        rw [decide_eq_true (by omega)]
        by_cases c : (r0 :: d).getLast? = some r
        · rw [if_pos c]
          rfl
        · rw [decide_eq_false c]
          simp
    show pkGo d ((if d.getLast? = some r then [61] else prT r) :: pkL (some r) rest) = _
    rw [pkGo, pk]
    show (if okAt d _ r then pkGo (d ++ [r]) (pkL (some r) rest) else _) = _
    rw [if_pos ok]
    have ih := pkGo_pack rest (d ++ [r]) (fun x hx => h x (by simpa using hx)) w1 w2
    rw [List.getLast?_concat, List.append_assoc] at ih
    exact ih
theorem readK_pack {w : Nat} {rows : List (List Nat)} (P : Pic w 1 rows) : readK (packT rows) = .rows rows := by
  have g := pkGo_pack rows [] (fun r hr => ⟨P.wide r hr, P.most r hr⟩) P.w1 P.w2
  have g : pkGo [] (pkL none rows) = .rows rows := g
  unfold readK
  rw [pack_lines P.ne, g]
  exact if_pos P.high
theorem prT_len3 {r : List Nat} (h : r.length ≤ 300) : (prT r).length ≤ (r.length + 1) * 4 := by
  obtain ⟨a, b⟩ := runs_le r
  have := joinC_len (sep := [32]) (w := 3) (ps := (runs r).map TL.numL) fun p hp => by
    obtain ⟨v, hv, rfl⟩ := List.mem_map.mp hp
    exact TL.numL_len (by decide) (by have := a v hv; omega)
  refine Nat.le_trans this ?_
  rw [List.length_map]
  exact Nat.mul_le_mul_right _ b
theorem pack_ok {w : Nat} {rows : List (List Nat)} (P : Pic w 1 rows) : (packT rows).length ≤ rows.length * ((w + 1) * 4 + 1) ∧ Asc (packT rows) := by
  have e := joinC_len (sep := [10]) (ps := pkL none rows) (w := (w + 1) * 4) fun p hp => by
    rcases pkL_mem hp with rfl | ⟨r, hr, rfl⟩
    · have := P.w1
      simp
      omega
    · have w2 := P.w2
      have wr := P.wide r hr
      have := prT_len3 (r := r) (by omega)
      rw [wr] at this
      exact this
  rw [pkL_len] at e
  refine ⟨e, fun c hc => ?_⟩
  rcases joinC_mem hc with h | ⟨p, hp, hc⟩
  · have : c = 10 := by simpa using h
    omega
  · have := pkL_chars hp c hc
    omega
end K78

namespace K78
open Cr PySem
theorem f_ss : Ga.fn "show_square" = some b_show_square := by kernel_rfl
theorem f_rst : Ga.fn "read_square_text" = some b_read_square_text := by kernel_rfl
theorem f_sl : Ga.fn "square_line" = some b_square_line := by kernel_rfl
theorem f_rsl : Ga.fn "read_square_line" = some b_read_square_line := by kernel_rfl
theorem f_lmk : Ga.fn "_law_marks" = some b_law_marks := by kernel_rfl
theorem f_lsq : Ga.fn "_law_squares" = some b_law_squares := by kernel_rfl
def strsD (ps : List T) : D := .list (ps.map .str)
theorem app_len (s : Store) (c : Cell) : (s ++ [c])[s.length]? = some c := app_get s c
theorem isq_pc (n : Nat) (ps : List T) (hl : ps.length ≤ 10000000) (hp : ∀ p ∈ ps, p.length ≤ 10000000) (s : Store) : pcall (run Ga (n + 3)) "is_square" [.ref s.length] (s ++ [dl (ps.map .str)]) = .ok (.bool (isSq ps)) (s ++ [dl (ps.map .str)]) :=
  pcall_st (xs := [strsD ps]) (by
    rw [List.mapM_cons, stands_dl (k := 5) (app_len s _)]
    rfl) (is_square_run n ps hl hp []) rfl
theorem read_square_text_run (n : Nat) (t : T) (h : t.length ≤ 100000) (s : Store) : run Ga (n + 4) "read_square_text" [.d (.str t)] s = if isSq (lines t) then .ok (.ref s.length) (s ++ [dl ((lines t).map .str)]) else .exc "BadLine" (some ("line", .int (-1))) (s ++ [dl ((lines t).map .str)]) := by
  obtain ⟨l1, l2⟩ := lines_len h
  have lo := lines_of_run (n + 2) t (by omega) s
  have pc := isq_pc n (lines t) (by omega) (fun p hp => by have := l2 p hp; omega) s
  rw [run_fn f_rst rfl]
  simp only [b_read_square_text]
  rw [show startE 2 [W.d (.str t)] = [some (.d (.str t)), none] from rfl]
  rw [step_asgM (w := .ref s.length) (s' := s ++ [dl ((lines t).map .str)]) (by simp; exact lo)]
  simp
  rw [exM_bind pc]
  cases isSq (lines t) with
  | true => simp
  | false => simp [un_m1]
theorem slash_parts {t : T} (h : t.length ≤ 100000) : (splitC [47] t).length ≤ 100001 ∧ ∀ p ∈ splitC [47] t, p.length ≤ 100000 := ⟨by have := split_num 47 t; omega, fun p hp => by have := split_len hp; omega⟩
theorem read_square_line_run (n : Nat) (t : T) (h : t.length ≤ 100000) (s : Store) : run Ga (n + 4) "read_square_line" [.d (.str t)] s = .ok (if isSq (splitC [47] t) then .ref s.length else .d .non) (s ++ [dl ((splitC [47] t).map .str)]) := by
  obtain ⟨l1, l2⟩ := slash_parts h
  have sp : mtD .split (.str t) [.str [47]] = some (.list ((splitC [47] t).map .str)) := split_E (by decide) (by omega)
  have pc := isq_pc n (splitC [47] t) (by omega) (fun p hp => by have := l2 p hp; omega) s
  rw [run_fn f_rsl rfl]
  simp [b_read_square_line, sp]
  rw [exM_bind pc]
  cases isSq (splitC [47] t) with
  | true => simp
  | false => simp
theorem read_square_line_p (n : Nat) (t : T) (h : t.length ≤ 100000) : pcall (run Ga (n + 4)) "read_square_line" [.d (.str t)] = M.pure (if isSq (splitC [47] t) then strsD (splitC [47] t) else .non) := by
  have q := read_square_line_run n t h []
  cases c : isSq (splitC [47] t) with
  | true =>
    rw [c] at q
    exact pcall_ds (xs := [.str t]) q (freeze_dl rfl)
  | false =>
    rw [c] at q
    exact pcall1 q
def sqV (ps : List T) : D := if isSq ps then strsD ps else .tup [.str RAISED, .int (-1)]
theorem told2_run (n : Nat) (t : T) (h : t.length ≤ 100000) : pcall (run Ga (n + 5)) "_law_told" [.d (.int 2), .d (.str t)] = M.pure (sqV (lines t)) := by
  have q := read_square_text_run n t h []
  have go : run Ga (n + 5) "_law_told" [.d (.int 2), .d (.str t)] [] = .ok (.d (sqV (lines t))) [] := by
    rw [run_fn f_lt rfl]
    unfold sqV
    cases c : isSq (lines t) with
    | true =>
      rw [c] at q
      have pc : pcall (run Ga (n + 4)) "read_square_text" [.d (.str t)] = M.pure (strsD (lines t)) := pcall_ds (xs := [.str t]) q (freeze_dl rfl)
      simp [b_law_told, pc]
    | false =>
      rw [c] at q
      have pc := pcall_exc (xs := [.str t]) q []
      have pc : pcall (run Ga (n + 4)) "read_square_text" [.d (.str t)] [] = .exc "BadLine" (some ("line", .int (-1))) [] := pc
      simp [b_law_told]
      rw [exM_bind_exc pc]
      simp [catch_line]
  exact pcall2 go
theorem read_square_text_p (n : Nat) (t : T) (h : t.length ≤ 100000) (hq : isSq (lines t) = true) : pcall (run Ga (n + 4)) "read_square_text" [.d (.str t)] = M.pure (strsD (lines t)) := by
  have q := read_square_text_run n t h []
  rw [hq] at q
  exact pcall_ds (xs := [.str t]) q (freeze_dl rfl)
structure Sq (n : Nat) (ps : List T) : Prop where
  side : n = 21 ∨ n = 25 ∨ n = 29
  len : ps.length = n
  each : ∀ p ∈ ps, p.length = n
  marks : ∀ p ∈ ps, ∀ c ∈ p, c = 35 ∨ c = 46
theorem Sq.ok {n : Nat} {ps : List T} (S : Sq n ps) : isSq ps = true := by
  unfold isSq
  have h1 : szOk ps.length = true := by
    rw [S.len]
    rcases S.side with h | h | h <;> rw [h] <;> decide
  have h2 : ps.all (fun p => decide (p.length = ps.length)) = true := List.all_eq_true.mpr fun p hp => decide_eq_true (by rw [S.each p hp, S.len])
  have h3 : ps.all (fun p => p.all mark) = true := List.all_eq_true.mpr fun p hp => List.all_eq_true.mpr fun c hc => by
    unfold mark
    rcases S.marks p hp c hc with h | h <;> rw [h] <;> decide
  rw [h1, h2, h3]
  rfl
theorem Sq.ne {n : Nat} {ps : List T} (S : Sq n ps) : ps ≠ [] := by
  intro h
  have := S.len
  rw [h] at this
  rcases S.side with h | h | h <;> rw [h] at this <;> cases this
def lineT (ps : List T) : T := joinC [47] ps
def textT (ps : List T) : T := joinC [10] ps
theorem Sq.slash {n : Nat} {ps : List T} (S : Sq n ps) : splitC [47] (lineT ps) = ps := TL.spl_join S.ne fun p hp h => by
  rcases S.marks p hp 47 h with h | h <;> cases h
theorem Sq.lines {n : Nat} {ps : List T} (S : Sq n ps) : lines (textT ps) = ps := TL.spl_join S.ne fun p hp h => by
  rcases S.marks p hp 10 h with h | h <;> cases h
/-- how long the parts are together -/
theorem spl_total (c : Nat) : ∀ (r acc : T), ((TL.spl [c] 0 acc r).map (·.length)).sum + (TL.spl [c] 0 acc r).length = acc.length + r.length + 1
  | [], acc => by rw [TL.spl_nil]; simp
  | x :: r, acc => by
    unfold TL.spl
    split
    · have := spl_total c r []
      simp at this ⊢
      omega
    · have := spl_total c r (acc ++ [x])
      simp at this ⊢
      omega
theorem split_total (c : Nat) (t : T) : ((splitC [c] t).map (·.length)).sum + (splitC [c] t).length = t.length + 1 := by
  have := spl_total c t []
  rw [List.length_nil, Nat.zero_add] at this
  exact this
theorem sum_same {n : Nat} : ∀ {ps : List T}, (∀ p ∈ ps, p.length = n) → (ps.map (·.length)).sum = ps.length * n
  | [], _ => by simp
  | p :: ps, h => by
    rw [List.map_cons, List.sum_cons, sum_same fun q hq => h q (by simp [hq]), h p (by simp), List.length_cons, Nat.add_mul, Nat.one_mul]
    omega
/-- of a square's parts the whole has n * n + n - 1 signs -/
theorem sq_count {c : Nat} {t : T} (h : isSq (splitC [c] t) = true) : ∃ n, (n = 21 ∨ n = 25 ∨ n = 29 ∨ n = 33 ∨ n = 37 ∨ n = 41 ∨ n = 45 ∨ n = 49) ∧ t.length + 1 = n * n + n := by
  unfold isSq at h
  obtain ⟨h1, h⟩ := (Bool.and_eq_true _ _).mp h
  obtain ⟨h2, _⟩ := (Bool.and_eq_true _ _).mp h
  have e := sum_same (n := (splitC [c] t).length) (ps := splitC [c] t) fun p hp => of_decide_eq_true (List.all_eq_true.mp h2 p hp)
  have tot := split_total c t
  rw [e] at tot
  refine ⟨(splitC [c] t).length, ?_, tot.symm⟩
  unfold szOk at h1
  simp at h1
  omega
theorem join_total {sep : T} : ∀ {ps : List (List Nat)}, ps ≠ [] → (joinC sep ps).length + sep.length = (ps.map (·.length)).sum + ps.length * sep.length
  | [], h => absurd rfl h
  | [p], _ => by
    have e : joinC sep [p] = p := rfl
    rw [e]
    simp
  | p :: q :: r, _ => by
    have ih := join_total (sep := sep) (ps := q :: r) (by simp)
    have e : joinC sep (p :: q :: r) = p ++ (sep ++ joinC sep (q :: r)) := by
      show TL.joinL sep (p :: q :: r) = _
      rw [TL.joinL]
      first
        | rfl
        | rw [List.append_assoc]
        | simp [joinC]
    rw [e, List.length_append, List.length_append, List.map_cons, List.sum_cons, List.length_cons, Nat.add_mul, Nat.one_mul]
    omega
theorem Sq.total {n : Nat} {ps : List T} (S : Sq n ps) (c : Nat) : (joinC [c] ps).length + 1 = n * n + n := by
  have := join_total (sep := [c]) S.ne
  rw [sum_same S.each, S.len] at this
  simpa using this
end K78

namespace K78
open Cr PySem
def bitm (v j : Nat) : Nat := if v / 2 ^ (j % 9) % 2 = 1 then 35 else 46
def markR (side v : Nat) : T := (List.range side).map (bitm v)
def marksL (side : Nat) (vs : List Nat) : List T := (List.range side).map fun i => markR side (vs.getD i 0)
theorem mdN {a b : Nat} (h : 0 < b) : binD .Mod (.int (a : Int)) (.int (b : Int)) = some (.int ((a % b : Nat) : Int)) := by
  rw [mod_int' (by omega)]
  rfl
theorem shrN (a b : Nat) : binD .RShift (.int (a : Int)) (.int (b : Int)) = some (.int ((a / 2 ^ b : Nat) : Int)) := by
  simp only [binD, intBin]
  rw [if_pos (decide_eq_true (by omega)), Int.toNat_natCast]
  show some (D.int ((a : Int) / 2 ^ b)) = _
  congr 2
theorem andN (a : Nat) : binD .BitAnd (.int (a : Int)) (.int 1) = some (.int ((a % 2 : Nat) : Int)) := by
  simp only [binD, intBin]
  rw [PyProof.Rows.bitAnd_m1]
  rfl
theorem bit_idx (m : Nat) : idxD (.str [46, 35]) (.int ((m % 2 : Nat) : Int)) = some (.str [if m % 2 = 1 then 35 else 46]) := by
  rcases Nat.mod_two_eq_zero_or_one m with h | h
  · rw [h]
    rfl
  · rw [h]
    rfl
theorem markR_sq {side : Nat} {vs : List Nat} (h : side = 21 ∨ side = 25 ∨ side = 29) : Sq side (marksL side vs) := by
  refine ⟨h, by simp [marksL], fun p hp => ?_, fun p hp c hc => ?_⟩
  · obtain ⟨i, _, rfl⟩ := List.mem_map.mp hp
    simp [markR]
  · obtain ⟨i, _, rfl⟩ := List.mem_map.mp hp
    obtain ⟨j, _, rfl⟩ := List.mem_map.mp hc
    unfold bitm
    split
    · exact .inl rfl
    · exact .inr rfl
theorem join_chars {α : Type} (f : α → Nat) (js : List α) (h : js.length ≤ 10000) : mtD .join (.str []) [.list (js.map fun j => .str [f j])] = some (.str (js.map f)) := by
  have e : (js.map fun j => D.str [f j]) = (js.map fun j => [f j]).map .str := by rw [List.map_map]; rfl
  rw [e, join_ok (w := 1) (fun p hp => by obtain ⟨v, _, rfl⟩ := List.mem_map.mp hp; simp) (by simp; omega), joinC_nil]
  congr 2
  clear h e
  induction js with
  | nil => rfl
  | cons v r ih => simp [ih]
theorem law_marks_run (n : Nat) (side : Nat) (vs : List Nat) (h : side ≤ vs.length) (h2 : side ≤ 100) : pcall (run Ga (n + 1)) "_law_marks" [.d (.int (side : Int)), .d (.list (vs.map nD))] = M.pure (strsD (marksL side vs)) := by
  have rg : rangeD [.int (side : Int)] = some ((List.range side).map nD) := range1' (by omega)
  have go : run Ga (n + 1) "_law_marks" [.d (.int (side : Int)), .d (.list (vs.map nD))] [] = .ok (.d (strsD (marksL side vs))) [] := by
    rw [run_fn f_lmk rfl]
    simp [b_law_marks, rg, -range1_E]
    rw [lc_g nD (fun i => .str (markR side (vs.getD i 0))) (fun i hi => by
      have hi : i < vs.length := by have := List.mem_range.mp hi; omega
      have ix : idxD (.list (vs.map nD)) (nD i) = some (nD (vs.getD i 0)) := idx_listE (by rw [List.getElem?_map, List.getElem?_eq_getElem hi, List.getD_eq_getElem?_getD, List.getElem?_eq_getElem hi]; rfl)
      generalize vs.getD i 0 = v at ix
      simp [lcBody_eq, rg, -range1_E]
      rw [lc_g nD (fun j => .str [bitm v j]) (fun j hj => by
        have m9 := mdN (a := j) (b := 9) (by decide)
        have sh := shrN v (j % 9)
        have an := andN (v / 2 ^ (j % 9))
        have bi := bit_idx (v / 2 ^ (j % 9))
        have m9 : binD .Mod (nD j) (.int 9) = some (.int ((j % 9 : Nat) : Int)) := m9
        have sh : binD .RShift (nD v) (.int ((j % 9 : Nat) : Int)) = _ := sh
        unfold bitm
        generalize j % 9 = j9 at m9 sh an bi ⊢
        generalize v / 2 ^ j9 = q at sh an bi ⊢
        generalize q % 2 = b at an bi ⊢
        simp [lcBody_eq, ix, m9, sh, an, bi]) (by simp; omega)]
      have := join_chars (bitm v) (List.range side) (by simp; omega)
      simp [this, markR]) (by simp; omega)]
    simp [strsD, marksL]
  exact pcall2 go
theorem repl_map (c d : Nat) : ∀ l : T, PySem.StrLaws.replL [c] [d] l = l.map fun x => if x = c then d else x
  | [] => PySem.StrLaws.replL_nil
  | x :: l => by
    by_cases h : x = c
    · rw [PySem.StrLaws.replL_hit (by simp) (by simp [h])]
      show [d] ++ PySem.StrLaws.replL [c] [d] l = _
      rw [repl_map c d l]
      simp [h]
    · rw [PySem.StrLaws.replL_miss (by simpa using h), repl_map c d l]
      simp [h]
theorem repD_map (c d : Nat) (t : T) (h : t.length ≤ 1000000) (hcd : c ≠ d) : repD [c] [d] (.str t) = some (.str (t.map fun x => if x = c then d else x)) := by
  have f : fits (t.length + (t.length + 1) * [d].length) = true := fits_of (by simp; omega)
  simp only [repD]
  rw [f, repl_map]
  simp [hcd]
theorem spl_repl (c d : Nat) : ∀ (r acc : T), d ∉ r → TL.spl [d] 0 acc (r.map fun x => if x = c then d else x) = TL.spl [c] 0 acc r
  | [], acc, _ => by rw [List.map_nil, TL.spl_nil, TL.spl_nil]
  | x :: r, acc, h => by
    have hr : d ∉ r := fun z => h (List.mem_cons_of_mem _ z)
    have hx : x ≠ d := fun z => h (by rw [z]; simp)
    rw [List.map_cons]
    by_cases e : x = c
    · rw [if_pos e, TL.spl_hit (S := [d]) (by simp [TL.pre]), TL.spl_hit (S := [c]) (by simp [TL.pre, e])]
      show acc :: TL.spl [d] 0 [] _ = acc :: TL.spl [c] 0 [] r
      rw [spl_repl c d r [] hr]
    · rw [if_neg e, TL.spl_miss (S := [d]) (by simp [TL.pre, hx]), TL.spl_miss (S := [c]) (by simp [TL.pre, e]), spl_repl c d r _ hr]
theorem lines_repl {t : T} (h : 10 ∉ t) : lines (t.map fun x => if x = 47 then 10 else x) = splitC [47] t := spl_repl 47 10 t [] h
end K78

namespace K78
open Cr PySem
def RT : D := .tup [.str RAISED, .int (-1)]
theorem cmp_list {n : Nat} {xs : List D} (hl : xs.length ≤ 1000000) (h : ∀ x ∈ xs, D.cmpOk n x = true) : D.cmpOk (n + 1) (.list xs) = true := by
  show (decide (xs.length ≤ 1000000) && xs.all (D.cmpOk n)) = true
  rw [decide_eq_true hl, List.all_eq_true.mpr h]
  rfl
theorem cmp_tup {n : Nat} {xs : List D} (hl : xs.length ≤ 1000000) (h : ∀ x ∈ xs, D.cmpOk n x = true) : D.cmpOk (n + 1) (.tup xs) = true := by
  show (decide (xs.length ≤ 1000000) && xs.all (D.cmpOk n)) = true
  rw [decide_eq_true hl, List.all_eq_true.mpr h]
  rfl
theorem cmp_bad (n : Nat) (k : Int) : D.cmpOk (n + 1) (.tup [.str RAISED, .int k]) = true := cmp_tup (by simp) fun x hx => by
  simp only [List.mem_cons, List.not_mem_nil, or_false] at hx
  rcases hx with rfl | rfl <;> cases n <;> rfl
theorem cmp_row (n : Nat) {r : List Nat} (h : r.length ≤ 1000000) : D.cmpOk (n + 1) (rowD r) = true := cmp_list (by simpa using h) fun x hx => by
  obtain ⟨v, _, rfl⟩ := List.mem_map.mp hx
  cases n <;> rfl
theorem cmp_pic (n : Nat) {rows : List (List Nat)} (h : rows.length ≤ 1000000) (h2 : ∀ r ∈ rows, r.length ≤ 1000000) : D.cmpOk (n + 2) (picD rows) = true := cmp_list (by simpa using h) fun x hx => by
  obtain ⟨r, hr, rfl⟩ := List.mem_map.mp hx
  exact cmp_row n (h2 r hr)
theorem cmp_strs (n : Nat) {ps : List T} (h : ps.length ≤ 1000000) : D.cmpOk (n + 1) (strsD ps) = true := cmp_list (by simpa using h) fun x hx => by
  obtain ⟨v, _, rfl⟩ := List.mem_map.mp hx
  cases n <;> rfl
theorem same_p (n : Nat) {x : D} (h : D.cmpOk n x = true) : pcall (run Ga (n + 1)) "_law_same" [.d x, .d x] = M.pure (.bool true) := pcall2 (same_run n x h [])
/-- a list is no tuple -/
theorem same_lt (n : Nat) (xs ys : List D) : pcall (run Ga (n + 1)) "_law_same" [.d (.list xs), .d (.tup ys)] = M.pure (.bool false) := by
  have go : run Ga (n + 1) "_law_same" [.d (.list xs), .d (.tup ys)] [] = .ok (.d (.bool false)) [] := by
    rw [run_fn f_same rfl]
    simp [b_law_same, isNon, isID]
  exact pcall2 go
def sqCond : E := match b_law_squares.body with
  | [_, _, _, _, _, _, _, _, _, _, _, .for _ _ [.ite c _ _], _] => c
  | _ => .bad
/-- what makes a text no find -/
def Dull (line text one : T) : Prop := one = line ∨ (isSq (splitC [47] one) = false ∧ isSq (lines (one.map fun x => if x = 47 then 10 else x)) = false) ∨ (one = text ∧ isSq (splitC [47] one) = false)
theorem chk (n : Nat) (line text one : T) (a b c d e f : Option W) (h : one.length ≤ 10000) (hd : Dull line text one) :
    (sem (run Ga (n + 6)) Ga.gl sqCond).t [a, b, c, some (.d (.str line)), some (.d (.str text)), d, e, f, some (.d (.str one))] = M.pure false := by
  have rs := read_square_line_p (n + 2) one (by omega)
  have rp : repD [47] [10] (.str one) = some (.str (one.map fun x => if x = 47 then 10 else x)) := repD_map 47 10 one (by omega) (by decide)
  have tl := told2_run (n + 1) (one.map fun x => if x = 47 then 10 else x) (by rw [List.length_map]; omega)
  by_cases c1 : one = line
  · simp [sqCond, b_law_squares, c1]
  · rcases hd with h1 | ⟨h1, h2⟩ | ⟨h1, h2⟩
    · exact absurd h1 c1
    · rw [h1] at rs
      unfold sqV at tl
      rw [h2] at tl
      have rs : pcall (run Ga (n + 6)) "read_square_line" [.d (.str one)] = M.pure .non := rs
      have tl : pcall (run Ga (n + 6)) "_law_told" [.d (.int 2), .d (.str (one.map fun x => if x = 47 then 10 else x))] = M.pure (.tup [.str RAISED, .int (-1)]) := tl
      have sm := same_p (n + 5) (cmp_bad (n + 4) (-1))
      generalize (one.map fun x => if x = 47 then 10 else x) = one' at rp tl
      unfold RAISED at tl sm
      simp [sqCond, b_law_squares, c1, rs, rp, tl, sm, un_m1, isNon]
    · rw [h2] at rs
      have rs : pcall (run Ga (n + 6)) "read_square_line" [.d (.str one)] = M.pure .non := rs
      have ne : cmpD .NotEq (.str one) (.str text) = some false := by rw [ne_str, decide_eq_true h1]; rfl
      have tl : pcall (run Ga (n + 6)) "_law_told" [.d (.int 2), .d (.str (one.map fun x => if x = 47 then 10 else x))] = M.pure (sqV (lines (one.map fun x => if x = 47 then 10 else x))) := tl
      generalize (one.map fun x => if x = 47 then 10 else x) = one' at rp tl
      have sm : ∃ b, pcall (run Ga (n + 6)) "_law_same" [.d (sqV (lines one')), .d (.tup [.str RAISED, .int (-1)])] = M.pure (.bool b) := by
        unfold sqV
        split
        · exact ⟨false, same_lt (n + 5) _ _⟩
        · exact ⟨true, same_p (n + 5) (cmp_bad (n + 4) (-1))⟩
      obtain ⟨b, sm⟩ := sm
      generalize sqV (lines one') = V at tl sm
      unfold RAISED at sm
      have ne0 : cmpD .NotEq (.str one) (.str line) = some true := by rw [ne_str, decide_eq_false c1]; rfl
      cases b <;> simp [sqCond, b_law_squares, rs, rp, tl, sm, un_m1, isNon, -ne_str, ne, ne0]
def sqLoop : List S := match b_law_squares.body with
  | [_, _, _, _, _, _, _, _, _, _, _, .for _ _ b, _] => b
  | _ => []
theorem sq_loop (n : Nat) (line text : T) (a b c d e f : Option W) (s : Store) : ∀ (ones : List T) (g : Option W), (∀ o ∈ ones, o.length ≤ 10000 ∧ Dull line text o) →
    ∃ g', forLoop (forBody (.name 8) (evSs (run Ga (n + 6)) Ga.gl sqLoop)) (ones.map .str) [a, b, c, some (.d (.str line)), some (.d (.str text)), d, e, f, g] s = .ok .next [a, b, c, some (.d (.str line)), some (.d (.str text)), d, e, f, g'] s
  | [], g, _ => ⟨g, by simp [forLoop]⟩
  | o :: ones, g, h => by
    obtain ⟨h1, h2⟩ := h o (by simp)
    have ck := chk n line text o a b c d e f h1 h2
    obtain ⟨g', ih⟩ := sq_loop n line text a b c d e f s ones (some (.d (.str o))) (fun x hx => h x (by simp [hx]))
    refine ⟨g', ?_⟩
    have st : forBody (.name 8) (evSs (run Ga (n + 6)) Ga.gl sqLoop) (.str o) [a, b, c, some (.d (.str line)), some (.d (.str text)), d, e, f, g] s = .ok .next [a, b, c, some (.d (.str line)), some (.d (.str text)), d, e, f, some (.d (.str o))] s := by
      unfold forBody
      simp only [bindPt_name, setVar_s, setVar_0]
      have e : sqLoop = [.ite sqCond [.ret (.con (.bool false))] []] := rfl
      rw [e, step_no (s' := s) (by rw [ck]; rfl)]
      simp
    rw [List.map_cons, forLoop, st]
    exact ih
theorem isSq_marks {ps : List T} (h : isSq ps = true) : ∀ p ∈ ps, ∀ c ∈ p, c = 35 ∨ c = 46 := fun p hp c hc => by
  unfold isSq at h
  obtain ⟨_, h⟩ := (Bool.and_eq_true _ _).mp h
  obtain ⟨_, h⟩ := (Bool.and_eq_true _ _).mp h
  have := List.all_eq_true.mp (List.all_eq_true.mp h p hp) c hc
  unfold mark at this
  simpa using this
theorem spl_has (c x : Nat) (hx : x ≠ c) : ∀ (r acc : T), x ∈ r ∨ x ∈ acc → ∃ p ∈ TL.spl [c] 0 acc r, x ∈ p
  | [], acc, h => by
    rw [TL.spl_nil]
    rcases h with h | h
    · cases h
    · exact ⟨acc, by simp, h⟩
  | y :: r, acc, h => by
    by_cases e : y = c
    · rw [TL.spl_hit (S := [c]) (by simp [TL.pre, e])]
      show ∃ p ∈ acc :: TL.spl [c] 0 [] r, x ∈ p
      rcases h with h | h
      · rcases List.mem_cons.mp h with h | h
        · exact absurd (h.trans e) hx
        · obtain ⟨p, hp, q⟩ := spl_has c x hx r [] (.inl h)
          exact ⟨p, List.mem_cons_of_mem _ hp, q⟩
      · exact ⟨acc, by simp, h⟩
    · rw [TL.spl_miss (S := [c]) (by simp [TL.pre, e])]
      refine spl_has c x hx r (acc ++ [y]) ?_
      rcases h with h | h
      · rcases List.mem_cons.mp h with h | h
        · exact .inr (by rw [h]; simp)
        · exact .inl h
      · exact .inr (by simp [h])
/-- no square has that many signs, or such a sign -/
def NoLen (k : Nat) : Prop := ∀ n, (n = 21 ∨ n = 25 ∨ n = 29 ∨ n = 33 ∨ n = 37 ∨ n = 41 ∨ n = 45 ∨ n = 49) → k + 1 ≠ n * n + n
theorem dull_len {line text one : T} (h10 : 10 ∉ one) (h : NoLen one.length) : Dull line text one := by
  have e : isSq (splitC [47] one) = false := by
    cases q : isSq (splitC [47] one) with
    | false => rfl
    | true =>
      obtain ⟨n, hn, ht⟩ := sq_count q
      exact absurd ht (h n hn)
  exact .inr (.inl ⟨e, by rw [lines_repl h10]; exact e⟩)
theorem dull_sign {line text one : T} (h10 : 10 ∉ one) (h : 120 ∈ one) : Dull line text one := by
  have e : isSq (splitC [47] one) = false := by
    cases q : isSq (splitC [47] one) with
    | false => rfl
    | true =>
      obtain ⟨p, hp, hx⟩ := spl_has 47 120 (by decide) one [] (.inl h)
      have := isSq_marks q p hp 120 hx
      omega
  exact .inr (.inl ⟨e, by rw [lines_repl h10]; exact e⟩)
theorem odd_len {s k : Nat} (hs : s = 21 ∨ s = 25 ∨ s = 29) (h : k + 1 = s * s + s + 1 ∨ k + 2 = s * s + s ∨ k = s * s + s + s) : NoLen k := fun n hn e => by
  rcases hs with rfl | rfl | rfl <;> rcases hn with rfl | rfl | rfl | rfl | rfl | rfl | rfl | rfl <;> omega
theorem no10 {n : Nat} {ps : List T} (S : Sq n ps) : 10 ∉ lineT ps := fun h => by
  rcases joinC_mem h with h | ⟨p, hp, h⟩
  · simp at h
  · rcases S.marks p hp 10 h with h | h <;> cases h
def ones (line text sq0 : T) (at_ : Nat) : List T := [[], line ++ [47], [47] ++ line, line.take at_ ++ line.drop (at_ + 1), line.take at_ ++ [120] ++ line.drop (at_ + 1), line ++ [47] ++ sq0, text, [35, 47, 35], line.drop 1]
theorem ones_ok {n : Nat} {ps : List T} (S : Sq n ps) {sq0 : T} (h0 : sq0 ∈ ps) {at_ : Nat} (ha : at_ < (lineT ps).length) : ∀ o ∈ ones (lineT ps) (textT ps) sq0 at_, o.length ≤ 10000 ∧ Dull (lineT ps) (textT ps) o := by
  have tl : (lineT ps).length + 1 = n * n + n := S.total 47
  have tt : (textT ps).length + 1 = n * n + n := S.total 10
  have n10 := no10 S
  have l0 := S.each sq0 h0
  have m0 : 10 ∉ sq0 := fun h => by rcases S.marks sq0 h0 10 h with h | h <;> cases h
  have small : n * n + n ≤ 870 := by rcases S.side with rfl | rfl | rfl <;> decide
  have n29 : n ≤ 29 := by rcases S.side with rfl | rfl | rfl <;> decide
  have tk : 10 ∉ (lineT ps).take at_ := fun h => n10 (List.mem_of_mem_take h)
  have td : ∀ k, 10 ∉ (lineT ps).drop k := fun k h => n10 (List.mem_of_mem_drop h)
  generalize hL : lineT ps = line at *
  have l1 : (line.take at_).length = at_ := by rw [List.length_take]; omega
  have l2 : (line.drop (at_ + 1)).length = line.length - (at_ + 1) := List.length_drop
  have l3 : (line.drop 1).length = line.length - 1 := List.length_drop
  intro o ho
  unfold ones at ho
  simp only [List.mem_cons, List.not_mem_nil, or_false] at ho
  rcases ho with rfl | rfl | rfl | rfl | rfl | rfl | rfl | rfl | rfl
  · exact ⟨by simp, dull_len (by simp) (fun n hn => by rcases hn with rfl | rfl | rfl | rfl | rfl | rfl | rfl | rfl <;> decide)⟩
  · refine ⟨by simp; omega, dull_len (by simp [n10]) (odd_len S.side (.inl ?_))⟩
    rw [List.length_append, List.length_singleton]
    omega
  · refine ⟨by simp; omega, dull_len (by simp [n10]) (odd_len S.side (.inl ?_))⟩
    rw [List.length_append, List.length_singleton]
    omega
  · have e : (line.take at_ ++ line.drop (at_ + 1)).length + 2 = n * n + n := by rw [List.length_append, l1, l2]; omega
    exact ⟨by omega, dull_len (by simp [tk, td]) (odd_len S.side (.inr (.inl e)))⟩
  · refine ⟨?_, dull_sign (by simp [tk, td]) (by simp)⟩
    rw [List.length_append, List.length_append, l1, l2, List.length_singleton]
    omega
  · have e : (line ++ [47] ++ sq0).length = n * n + n + n := by rw [List.length_append, List.length_append, List.length_singleton, l0]; omega
    exact ⟨by omega, dull_len (by simp [n10, m0]) (odd_len S.side (.inr (.inr e)))⟩
  · refine ⟨by omega, .inr (.inr ⟨rfl, ?_⟩)⟩
    have f47 : 47 ∉ textT ps := fun h => by
      rcases joinC_mem h with h | ⟨p, hp, h⟩
      · simp at h
      · rcases S.marks p hp 47 h with h | h <;> cases h
    have : splitC [47] (textT ps) = [textT ps] := by
      have e := TL.spl_last1 (s := 47) (S := []) (acc := []) f47
      rw [List.nil_append] at e
      exact e
    rw [this]
    rfl
  · exact ⟨by simp, dull_len (by simp) (fun n hn => by rcases hn with rfl | rfl | rfl | rfl | rfl | rfl | rfl | rfl <;> decide)⟩
  · have e : (line.drop 1).length + 2 = n * n + n := by rw [l3]; omega
    exact ⟨by omega, dull_len (td 1) (odd_len S.side (.inr (.inl e)))⟩
end K78

namespace K78
open Cr PySem
theorem drawn_ix {c0 : Nat} {vs : List Nat} (h : Drawn c0 vs) {k : Nat} (hk : k < c0) : idxD (.list (vs.map nD)) (.int (k : Int)) = some (nD (vs.getD k 0)) := by
  have hk : k < vs.length := by rw [h.1]; exact hk
  exact idx_listE (by rw [List.getElem?_map, List.getElem?_eq_getElem hk, List.getD_eq_getElem?_getD, List.getElem?_eq_getElem hk]; rfl)
theorem strs_goodL {n : Nat} {ps : List T} (h : ∀ p ∈ ps, ∀ c ∈ p, c < 1114112) : (strsD ps).good (n + 1) = true := by
  show (ps.map D.str).all (D.good n) = true
  rw [List.all_map]
  refine List.all_eq_true.mpr fun p hp => ?_
  have : p.all (· < 0x110000) = true := List.all_eq_true.mpr fun c hc => decide_eq_true (h p hp c hc)
  cases n <;> exact this
theorem strs_join {sep : T} {n : Nat} {ps : List T} (S : Sq n ps) (hs : sep.length = 1) : mtD .join (.str sep) [strsD ps] = some (.str (joinC sep ps)) := by
  have n29 : n ≤ 29 := by rcases S.side with rfl | rfl | rfl <;> decide
  exact join_ok (w := 29) (fun p hp => by rw [S.each p hp]; exact n29) (by rw [S.len, hs]; omega)
theorem show_square_p (m : Nat) {n : Nat} {ps : List T} (S : Sq n ps) : pcall (run Ga (m + 1)) "show_square" [.d (strsD ps)] = M.pure (.str (textT ps)) := by
  have j := strs_join (sep := [10]) S rfl
  have go : run Ga (m + 1) "show_square" [.d (strsD ps)] [] = .ok (.d (.str (textT ps))) [] := by
    rw [run_fn f_ss rfl]
    simp [b_show_square, j]
    rfl
  exact pcall1 go
theorem square_line_p (m : Nat) {n : Nat} {ps : List T} (S : Sq n ps) : pcall (run Ga (m + 1)) "square_line" [.d (strsD ps)] = M.pure (.str (lineT ps)) := by
  have j := strs_join (sep := [47]) S rfl
  have go : run Ga (m + 1) "square_line" [.d (strsD ps)] [] = .ok (.d (.str (lineT ps))) [] := by
    rw [run_fn f_sl rfl]
    simp [b_square_line, j]
    rfl
  exact pcall1 go
theorem law_squares_run (n : Nat) (ns : List Int) (vs : List Nat) (h : Drawn 40 vs) : pcall (run Ga (n + 7)) "_law_squares" [.d (.rol (ns.map .int)), .d (.list (vs.map nD))] = M.pure (.bool true) := by
  obtain ⟨us, du, hu⟩ := law_numbers_run (n + 5) ns 2 30 (by decide) (by decide)
  have hu : pcall (run Ga (n + 6)) "_law_numbers" [.d (.rol (ns.map .int)), .d (.int 2), .d (.int 30)] = M.pure (.list (us.map nD)) := hu
  have i0 := drawn_ix h (k := 0) (by decide)
  have i1 := drawn_ix h (k := 1) (by decide)
  generalize vs.getD 0 0 = v0 at i0
  generalize vs.getD 1 0 = v1 at i1
  have i0 : idxD (.list (vs.map nD)) (.int 0) = some (nD v0) := i0
  have i1 : idxD (.list (vs.map nD)) (.int 1) = some (nD v1) := i1
  have md : binD .Mod (nD v0) (.int 3) = some (.int ((v0 % 3 : Nat) : Int)) := mdN (b := 3) (by decide)
  have m3 := Nat.mod_lt v0 (show 3 > 0 by decide)
  obtain ⟨side, hs, he⟩ : ∃ side : Nat, (side = 21 ∨ side = 25 ∨ side = 29) ∧ (21 : Int) + 4 * ((v0 % 3 : Nat) : Int) = (side : Int) := ⟨21 + 4 * (v0 % 3), by omega, by omega⟩
  have ml : binD .Mult (.int 4) (.int ((v0 % 3 : Nat) : Int)) = some (.int (4 * ((v0 % 3 : Nat) : Int))) := mulL (by decide)
  generalize v0 % 3 = m at md he ml
  have s29 : side ≤ 29 := by omega
  have lm := law_marks_run (n + 5) side us (by rw [du.1]; omega) (by omega)
  have S : Sq side (marksL side us) := markR_sq hs
  generalize marksL side us = ps at lm S
  -- what is told
  have sq := S.ok
  have jl := strs_join (sep := [47]) S rfl
  have jt := strs_join (sep := [10]) S rfl
  have tl : (lineT ps).length + 1 = side * side + side := S.total 47
  have tt : (textT ps).length + 1 = side * side + side := S.total 10
  have small : side * side + side ≤ 870 := by rcases hs with rfl | rfl | rfl <;> decide
  have big : 2 ≤ side * side + side := by rcases hs with rfl | rfl | rfl <;> decide
  have Ll : lines (textT ps) = ps := S.lines
  have Sl : splitC [47] (lineT ps) = ps := S.slash
  have p1 := show_square_p (n + 5) S
  have p2 := square_line_p (n + 5) S
  have e1 := same_p (n + 5) (x := .str (textT ps)) (by cases n <;> rfl)
  have e2 := same_p (n + 5) (x := .str (lineT ps)) (by cases n <;> rfl)
  have bl : biD .list [strsD ps] = some (strsD ps) := rfl
  have chars : ∀ p ∈ ps, ∀ c ∈ p, c < 1114112 := fun p hp c hc => by rcases S.marks p hp c hc with h | h <;> omega
  have eqr : cmpD .NotEq (strsD ps) (strsD ps) = some false := by
    show (eqD _ _).map _ = _
    rw [eqD_refl (n := 2) (by decide) (strs_goodL chars)]
    rfl
  have r1 := read_square_text_run (n + 2) (textT ps) (by omega) []
  rw [Ll, sq] at r1
  have r1 : run Ga (n + 6) "read_square_text" [.d (.str (textT ps))] [] = .ok (.ref 0) [dl (ps.map .str)] := r1
  have r2 := read_square_line_run (n + 2) (lineT ps) (by omega) [dl (ps.map .str)]
  rw [Sl, sq] at r2
  have r2 : run Ga (n + 6) "read_square_line" [.d (.str (lineT ps))] [dl (ps.map .str)] = .ok (.ref 1) [dl (ps.map .str), dl (ps.map .str)] := r2
  have cp : D.cmpOk (n + 5) (.list [strsD ps, strsD ps]) = true := cmp_list (n := n + 4) (by simp) fun x hx => by
    simp only [List.mem_cons, List.not_mem_nil, or_false, or_self] at hx
    rw [hx]
    exact cmp_strs (n + 3) (by rw [S.len]; omega)
  have e3 : pcall (run Ga (n + 6)) "_law_same" [.ref 2, .d (.list [strsD ps, strsD ps])] [dl (ps.map .str), dl (ps.map .str), .list [.ref 0, .ref 1]] = .ok (.bool true) [dl (ps.map .str), dl (ps.map .str), .list [.ref 0, .ref 1]] :=
    pcall_st (xs := [.list [strsD ps, strsD ps], .list [strsD ps, strsD ps]]) (by
      have a0 : stands [dl (ps.map .str), dl (ps.map .str), .list [.ref 0, .ref 1]] 5 (.ref 0) = some (strsD ps) := stands_dl rfl
      have a1 : stands [dl (ps.map .str), dl (ps.map .str), .list [.ref 0, .ref 1]] 5 (.ref 1) = some (strsD ps) := stands_dl rfl
      have a2 : stands [dl (ps.map .str), dl (ps.map .str), .list [.ref 0, .ref 1]] 6 (.ref 2) = some (.list [strsD ps, strsD ps]) := by
        rw [stands_ref]
        show (([.ref 0, .ref 1] : List W).mapM (stands _ 5)).map D.list = _
        rw [List.mapM_cons, a0, List.mapM_cons, a1]
        rfl
      rw [List.mapM_cons, a2]
      rfl) (same_run (n + 5) _ cp []) rfl
  have e4 := same_p (n + 5) cp
  have p3 := read_square_text_p (n + 2) (textT ps) (by omega) (by rw [Ll]; exact sq)
  rw [Ll] at p3
  have p4 := read_square_line_p (n + 2) (lineT ps) (by omega)
  rw [Sl, sq] at p4
  have go : ∃ st, run Ga (n + 7) "_law_squares" [.d (.rol (ns.map .int)), .d (.list (vs.map nD))] [] = .ok (.d (.bool true)) st := by
    obtain ⟨st, hst⟩ : ∃ st : Store, st = [dl ((ps.map .str).set 0 (.str [])), dl (ps.map .str ++ [.str []]), Cell.list [.ref 0, .ref 1]] := ⟨_, rfl⟩
    refine ⟨st, ?_⟩
    · rw [run_fn f_lsq rfl]
      simp only [b_law_squares]
      rw [show startE 9 [W.d (.rol (ns.map .int)), W.d (.list (vs.map nD))] = [some (.d (.rol (ns.map .int))), some (.d (.list (vs.map nD))), none, none, none, none, none, none, none] from rfl]
      rw [step_asg (w := .d (strsD ps)) (by simp [i0, md, ml, he, hu, lm])]
      rw [step_asg (w := .d (.str (lineT ps))) (by simp [jl]; rfl)]
      rw [step_asg (w := .d (.str (textT ps))) (by simp [jt]; rfl)]
      rw [step_asg (w := .d (strsD ps)) (by simp [bl])]
      rw [step_no (s' := []) (by simp [p1, e1, p2, e2, eqr])]
      rw [step_asgM (w := .ref 2) (s' := [dl (ps.map .str), dl (ps.map .str), .list [.ref 0, .ref 1]]) (listw2 (s1 := [dl (ps.map .str)]) (w1 := .ref 0) (s2 := [dl (ps.map .str), dl (ps.map .str)]) (w2 := .ref 1) (by simp; exact r1) (by simp; exact r2))]
      rw [step_no (s' := [dl (ps.map .str), dl (ps.map .str), .list [.ref 0, .ref 1]]) (by simp; rw [bind_ok e3]; simp)]
      have x0 : L2.ixN ps.length 0 = some 0 := by
        unfold L2.ixN
        rw [if_pos (by decide), if_pos (by rw [S.len]; omega)]
        rfl
      have y0 : L2.atI ([.ref 0, .ref 1] : List W) (0 : Int) = some (.ref 0) := rfl
      have y1 : L2.atI ([.ref 0, .ref 1] : List W) (1 : Int) = some (.ref 1) := rfl
      rw [step_st (ρ' := [some (.d (.rol (ns.map .int))), some (.d (.list (vs.map nD))), some (.d (strsD ps)), some (.d (.str (lineT ps))), some (.d (.str (textT ps))), some (.d (strsD ps)), some (.ref 2), none, none]) (s' := [dl ((ps.map .str).set 0 (.str [])), dl (ps.map .str), .list [.ref 0, .ref 1]]) (by simp [ixS_W y0, x0])]
      have ll : ps.length < 16777216 := by rw [S.len]; omega
      rw [step_st (ρ' := [some (.d (.rol (ns.map .int))), some (.d (.list (vs.map nD))), some (.d (strsD ps)), some (.d (.str (lineT ps))), some (.d (.str (textT ps))), some (.d (strsD ps)), some (.ref 2), none, none]) (s' := [dl ((ps.map .str).set 0 (.str [])), dl (ps.map .str ++ [.str []]), .list [.ref 0, .ref 1]]) (by simp [ixS_W y1, ll])]
      rw [← hst]
      have p4 : pcall (run Ga (n + 6)) "read_square_line" [.d (.str (lineT ps))] = M.pure (strsD ps) := p4
      rw [step_no (s' := st) (by simp [p3, p4, e4])]
      have fl : fits (lineT ps).length = true := fits_of (by omega)
      have md1 : binD .Mod (nD v1) (.int ((lineT ps).length : Int)) = some (.int ((v1 % (lineT ps).length : Nat) : Int)) := mdN (by omega)
      have la : v1 % (lineT ps).length < (lineT ps).length := Nat.mod_lt _ (by omega)
      generalize v1 % (lineT ps).length = at_ at md1 la
      rw [step_asg (w := .d (.int (at_ : Int))) (by simp [i1, len_str fl, md1])]
      obtain ⟨sq0, rest, ep⟩ : ∃ sq0 rest, ps = sq0 :: rest := by
        cases e : ps with
        | nil => exact absurd e S.ne
        | cons a b => exact ⟨a, b, rfl⟩
      have ok := ones_ok S (sq0 := sq0) (by rw [ep]; simp) la
      obtain ⟨g', lp⟩ := sq_loop n (lineT ps) (textT ps) (some (.d (.rol (ns.map .int)))) (some (.d (.list (vs.map nD)))) (some (.d (strsD ps))) (some (.d (strsD ps))) (some (.ref 2)) (some (.d (.int (at_ : Int)))) st _ none ok
      have c1 : sliceD (.str (lineT ps)) none (some (at_ : Int)) = some (.str ((lineT ps).take at_)) := by rw [slice_strE fl, cut_take]
      have c2 : sliceD (.str (lineT ps)) (some ((at_ : Int) + 1)) none = some (.str ((lineT ps).drop (at_ + 1))) := by
        rw [slice_strE fl, show (at_ : Int) + 1 = ((at_ + 1 : Nat) : Int) by omega, cut_drop]
      have c3 : sliceD (.str (lineT ps)) (some 1) none = some (.str ((lineT ps).drop 1)) := by rw [slice_strE fl, cut_drop1]
      have ix0 : idxD (strsD ps) (.int 0) = some (.str sq0) := by rw [ep]; exact idx_listE (j := 0) rfl
      have l0 : sq0.length = side := S.each sq0 (by rw [ep]; simp)
      have lk : ((lineT ps).take at_).length ≤ 870 := by rw [List.length_take]; omega
      have ld : ((lineT ps).drop (at_ + 1)).length ≤ 870 := by rw [List.length_drop]; omega
      have a1 : binD .Add (.str (lineT ps)) (.str [47]) = some (.str (lineT ps ++ [47])) := add_str (by simp; omega)
      have a2 : binD .Add (.str [47]) (.str (lineT ps)) = some (.str ([47] ++ lineT ps)) := add_str (by simp; omega)
      have a3 : binD .Add (.str ((lineT ps).take at_)) (.str ((lineT ps).drop (at_ + 1))) = some (.str ((lineT ps).take at_ ++ (lineT ps).drop (at_ + 1))) := add_str (by omega)
      have a4 : binD .Add (.str ((lineT ps).take at_)) (.str [120]) = some (.str ((lineT ps).take at_ ++ [120])) := add_str (by simp; omega)
      have a5 : binD .Add (.str ((lineT ps).take at_ ++ [120])) (.str ((lineT ps).drop (at_ + 1))) = some (.str ((lineT ps).take at_ ++ [120] ++ (lineT ps).drop (at_ + 1))) := add_str (by rw [List.length_append, List.length_singleton]; omega)
      have a6 : binD .Add (.str (lineT ps ++ [47])) (.str sq0) = some (.str (lineT ps ++ [47] ++ sq0)) := add_str (by rw [List.length_append, List.length_singleton]; omega)
      simp only [sqLoop, b_law_squares] at lp
      simp only [setVar_s, setVar_0]
      rw [step_for (xs := (ones (lineT ps) (textT ps) sq0 at_).map .str) (by
        unfold ones
        generalize (lineT ps).take at_ = tk at c1 a3 a4 a5 ⊢
        generalize (lineT ps).drop (at_ + 1) = dr at c2 a3 a5 ⊢
        generalize (lineT ps).drop 1 = d1 at c3 ⊢
        generalize lineT ps = ln at c1 c2 c3 a1 a2 a6 ⊢
        generalize strsD ps = sd at ix0 ⊢
        simp [c1, c2, c3, a1, a2, a3, a4, a5, a6, ix0]
        ) lp]
      have fin1 := read_square_line_p (n + 2) (textT ps) (by omega)
      have t47 : splitC [47] (textT ps) = [textT ps] := by
        have f47 : 47 ∉ textT ps := fun h => by
          rcases joinC_mem h with h | ⟨p, hp, h⟩
          · simp at h
          · rcases S.marks p hp 47 h with h | h <;> cases h
        have e := TL.spl_last1 (s := 47) (S := []) (acc := []) f47
        rw [List.nil_append] at e
        exact e
      have t10 : lines (lineT ps) = [lineT ps] := by
        have e := TL.spl_last1 (s := 10) (S := []) (acc := []) (no10 S)
        rw [List.nil_append] at e
        exact e
      rw [t47] at fin1
      have fin1 : pcall (run Ga (n + 6)) "read_square_line" [.d (.str (textT ps))] = M.pure .non := fin1
      have fin2 := told2_run (n + 1) (lineT ps) (by omega)
      rw [t10] at fin2
      have fin2 : pcall (run Ga (n + 6)) "_law_told" [.d (.int 2), .d (.str (lineT ps))] = M.pure (.tup [.str RAISED, .int (-1)]) := fin2
      have fin3 := same_p (n + 5) (cmp_bad (n + 4) (-1))
      unfold RAISED at fin2 fin3
      generalize strsD ps = sd
      generalize textT ps = tt at fin1 ⊢
      generalize lineT ps = ln at fin2 ⊢
      simp [fin1, fin2, fin3, un_m1, isNon]
  obtain ⟨st, go⟩ := go
  exact pcall2 go
end K78

namespace K78
open Cr PySem
theorem f_ln : Ga.fn "_law_near" = some b_law_near := by kernel_rfl
/-- a text that is tried -/
def Fine (t : T) : Prop := t.length ≤ 15000 ∧ Asc t
theorem Asc.app {x y : T} (h1 : Asc x) (h2 : Asc y) : Asc (x ++ y) := fun c hc => (List.mem_append.mp hc).elim (h1 c) (h2 c)
theorem Asc.take {x : T} (h : Asc x) (k : Nat) : Asc (x.take k) := fun c hc => h c (List.mem_of_mem_take hc)
theorem Asc.drop {x : T} (h : Asc x) (k : Nat) : Asc (x.drop k) := fun c hc => h c (List.mem_of_mem_drop hc)
theorem Asc.join {sep : T} {ps : List T} (h : Asc sep) (hp : ∀ p ∈ ps, Asc p) : Asc (joinC sep ps) := fun c hc => by
  rcases joinC_mem hc with q | ⟨p, hq, q⟩
  · exact h c q
  · exact hp p hq c q
/-- signs and ends together -/
def size (ps : List (List Nat)) : Nat := (ps.map (·.length)).sum + ps.length
theorem size_app (a b : List (List Nat)) : size (a ++ b) = size a + size b := by
  unfold size
  rw [List.map_append, List.sum_append, List.length_append]
  omega
theorem size_one (a : T) : size [a] = a.length + 1 := by simp [size]
theorem join_size (ps : List (List Nat)) : (joinC [10] ps).length ≤ size ps := by
  cases ps with
  | nil => simp [joinC, TL.joinL, size]
  | cons p ps =>
    have := join_total (sep := [10]) (ps := p :: ps) (by simp)
    unfold size
    simp at this ⊢
    omega
theorem take_size (ps : List (List Nat)) (k : Nat) : size (ps.take k) + size (ps.drop k) = size ps := by
  rw [← size_app, List.take_append_drop]
theorem drop_size (ps : List (List Nat)) (k : Nat) : size (ps.drop (k + 1)) ≤ size (ps.drop k) := by
  rw [← List.drop_drop]
  have := take_size (ps.drop k) 1
  omega
theorem size_join {ps : List (List Nat)} (h : size ps ≤ 100000) : mtD .join (.str [10]) [.list (ps.map .str)] = some (.str (joinC [10] ps)) := by
  refine join_E ?_
  unfold size at h
  simp
  omega
theorem lines_size (t : T) : size (lines t) = t.length + 1 := split_total 10 t
theorem addL {xs ys : List T} (h1 : xs.length ≤ 1000000) (h2 : ys.length ≤ 1000000) : binD .Add (.list (xs.map .str)) (.list (ys.map .str)) = some (.list ((xs ++ ys).map .str)) := by
  rw [add_list (by simp; omega), List.map_append]
theorem slL {xs : List T} {k : Nat} : sliceD (.list (xs.map .str)) none (some (k : Int)) = some (.list ((xs.take k).map .str)) := by
  rw [slice_listE, cut_take, List.map_take]
theorem slR {xs : List T} {k : Nat} : sliceD (.list (xs.map .str)) (some (k : Int)) none = some (.list ((xs.drop k).map .str)) := by
  rw [slice_listE, cut_drop, List.map_drop]
structure Near (t : T) (ls : List T) (at_ : Nat) (ln : T) : Prop where
  tl : t.length ≤ 4000
  ta : Asc t
  el : lines t = ls
  ea : ls[at_]? = some ln
theorem Near.lnl {t ln : T} {ls : List T} {at_ : Nat} (N : Near t ls at_ ln) : ln.length ≤ 4000 ∧ Asc ln := by
  have hm : ln ∈ lines t := by rw [N.el]; exact List.mem_of_getElem? N.ea
  have h1 := split_len hm
  have := N.tl
  exact ⟨by omega, fun c hc => N.ta c (split_mem hm c hc)⟩
theorem Near.lsz {t ln : T} {ls : List T} {at_ : Nat} (N : Near t ls at_ ln) : size ls ≤ 4001 ∧ ls.length ≤ 4001 ∧ ∀ p ∈ ls, Asc p := by
  have h := lines_size t
  rw [N.el] at h
  have := N.tl
  refine ⟨by omega, ?_, fun p hp => ?_⟩
  · have : ls.length ≤ size ls := by unfold size; omega
    omega
  · rw [← N.el] at hp
    exact fun c hc => N.ta c (split_mem hp c hc)
def mkN (ls : List T) (at_ : Nat) (one : T) : T := joinC [10] (ls.take at_ ++ [one] ++ ls.drop (at_ + 1))
theorem Near.make {t ln : T} {ls : List T} {at_ : Nat} (N : Near t ls at_ ln) {one : T} (h : one.length ≤ 9000) (ha : Asc one) : Fine (mkN ls at_ one) ∧ mtD .join (.str [10]) [.list ((ls.take at_ ++ [one] ++ ls.drop (at_ + 1)).map .str)] = some (.str (mkN ls at_ one)) := by
  obtain ⟨s1, s2, s3⟩ := N.lsz
  have sz : size (ls.take at_ ++ [one] ++ ls.drop (at_ + 1)) ≤ 14000 := by
    rw [size_app, size_app, size_one]
    have := take_size ls at_
    have := drop_size ls at_
    omega
  refine ⟨⟨?_, ?_⟩, size_join (by omega)⟩
  · have := join_size (ls.take at_ ++ [one] ++ ls.drop (at_ + 1))
    unfold mkN
    omega
  · refine Asc.join (fun c hc => by have : c = 10 := by simpa using hc
                                    omega) fun p hp => ?_
    rcases List.mem_append.mp hp with hp | hp
    · rcases List.mem_append.mp hp with hp | hp
      · exact s3 p (List.mem_of_mem_take hp)
      · have : p = one := by simpa using hp
        rw [this]
        exact ha
    · exact s3 p (List.mem_of_mem_drop hp)
def nrB1 : List S := match b_law_near.body with
  | [_, _, _, _, .for _ _ b, _, _, _, _] => b
  | _ => []
def nrB2 : List S := match b_law_near.body with
  | [_, _, _, _, _, .for _ _ b, _, _, _] => b
  | _ => []
theorem near_step1 (n : Nat) {t ln : T} {ls : List T} {at_ : Nat} (N : Near t ls at_ ln) {c0 : Nat} {vs : List Nat} (hv : Drawn c0 vs) (hc : 7 ≤ c0) (signs : List T) (k : Nat) (w : T) (hk : signs[k]? = some w) (hw : w.length ≤ 10) (hwa : Asc w) (q : W) (A : List T) (hA : ∀ a ∈ A, Fine a) (hl : A.length ≤ 1000000) (x y z u : Option W) :
    ∃ (A' : List T) (y' z' : Option W), (∀ a ∈ A', Fine a) ∧ A'.length = A.length + 2 ∧ forBody (.name 7) (evSs (run Ga n) Ga.gl nrB1) (.int (k : Int)) [some q, some (.d (.list (vs.map nD))), some (.d (.list (signs.map .str))), some (.d (.list (ls.map .str))), some (.d (.int (at_ : Int))), some (.d (.str ln)), some (.ref 0), x, y, z, u] [dl (A.map .str)] =
      .ok .next [some q, some (.d (.list (vs.map nD))), some (.d (.list (signs.map .str))), some (.d (.list (ls.map .str))), some (.d (.int (at_ : Int))), some (.d (.str ln)), some (.ref 0), some (.d (.int (k : Int))), y', z', u] [dl (A'.map .str)] := by
  obtain ⟨l1, l2⟩ := N.lnl
  obtain ⟨s1, s2, s3⟩ := N.lsz
  have is : idxD (.list (signs.map .str)) (.int (k : Int)) = some (.str w) := idx_listE (by rw [List.getElem?_map, hk]; rfl)
  have m6 : binD .Mod (.int (k : Int)) (.int 6) = some (.int ((k % 6 : Nat) : Int)) := mdN (a := k) (b := 6) (by decide)
  have m6l := Nat.mod_lt k (show 6 > 0 by decide)
  have iv := drawn_ix hv (k := 1 + k % 6) (by omega)
  have e1 : ((1 + k % 6 : Nat) : Int) = 1 + ((k % 6 : Nat) : Int) := by omega
  rw [e1] at iv
  generalize vs.getD (1 + k % 6) 0 = v at iv
  generalize k % 6 = k6 at m6 iv
  have fl : fits ln.length = true := fits_of (by omega)
  have mi : binD .Mod (nD v) (.int ((ln.length : Int) + 1)) = some (.int ((v % (ln.length + 1) : Nat) : Int)) := mdN (b := ln.length + 1) (by omega)
  have il := Nat.mod_lt v (show ln.length + 1 > 0 by omega)
  generalize v % (ln.length + 1) = i at mi il
  have c1 : sliceD (.str ln) none (some (i : Int)) = some (.str (ln.take i)) := by rw [slice_strE fl, cut_take]
  have c2 : sliceD (.str ln) (some (i : Int)) none = some (.str (ln.drop i)) := by rw [slice_strE fl, cut_drop]
  have c3 : sliceD (.str ln) (some ((i : Int) + 1)) none = some (.str (ln.drop (i + 1))) := by rw [slice_strE fl, show (i : Int) + 1 = ((i + 1 : Nat) : Int) by omega, cut_drop]
  have tk : (ln.take i).length ≤ 4000 := by rw [List.length_take]; omega
  have td : (ln.drop i).length ≤ 4000 := by rw [List.length_drop]; omega
  have td' : (ln.drop (i + 1)).length ≤ 4000 := by rw [List.length_drop]; omega
  have d1 : binD .Add (.str (ln.take i)) (.str w) = some (.str (ln.take i ++ w)) := add_str (by omega)
  have d2 : binD .Add (.str (ln.take i ++ w)) (.str (ln.drop i)) = some (.str (ln.take i ++ w ++ ln.drop i)) := add_str (by rw [List.length_append]; omega)
  have d3 : binD .Add (.str (ln.take i ++ w)) (.str (ln.drop (i + 1))) = some (.str (ln.take i ++ w ++ ln.drop (i + 1))) := add_str (by rw [List.length_append]; omega)
  obtain ⟨n1, j1⟩ := N.make (one := ln.take i ++ w ++ ln.drop i) (by rw [List.length_append, List.length_append]; omega) (((l2.take i).app hwa).app (l2.drop i))
  obtain ⟨n2, j2⟩ := N.make (one := ln.take i ++ w ++ ln.drop (i + 1)) (by rw [List.length_append, List.length_append]; omega) (((l2.take i).app hwa).app (l2.drop (i + 1)))
  generalize ln.take i ++ w ++ ln.drop i = o1 at d2 n1 j1
  generalize ln.take i ++ w ++ ln.drop (i + 1) = o2 at d3 n2 j2
  generalize ln.take i ++ w = o0 at d1 d2 d3
  generalize ln.take i = p0 at c1 d1
  generalize ln.drop i = p1 at c2 d2
  generalize ln.drop (i + 1) = p2 at c3 d3
  have sl : sliceD (.list (ls.map .str)) none (some (at_ : Int)) = some (.list ((ls.take at_).map .str)) := slL
  have sr : sliceD (.list (ls.map .str)) (some ((at_ : Int) + 1)) none = some (.list ((ls.drop (at_ + 1)).map .str)) := by
    rw [show (at_ : Int) + 1 = ((at_ + 1 : Nat) : Int) by omega]
    exact slR
  have tl : (ls.take at_).length ≤ 5000 := by rw [List.length_take]; omega
  have dl' : (ls.drop (at_ + 1)).length ≤ 5000 := by rw [List.length_drop]; omega
  have g1 : ∀ o : T, binD .Add (.list ((ls.take at_).map .str)) (.list [.str o]) = some (.list ((ls.take at_ ++ [o]).map .str)) := fun o => addL (ys := [o]) (by omega) (by simp)
  have g2 : ∀ o : T, binD .Add (.list ((ls.take at_ ++ [o]).map .str)) (.list ((ls.drop (at_ + 1)).map .str)) = some (.list ((ls.take at_ ++ [o] ++ ls.drop (at_ + 1)).map .str)) := fun o => addL (by simp; omega) (by omega)
  refine ⟨A ++ [mkN ls at_ o1] ++ [mkN ls at_ o2], some (.d (.str w)), some (.d (.int (i : Int))), fun a ha => ?_, by simp, ?_⟩
  · rcases List.mem_append.mp ha with ha | ha
    · rcases List.mem_append.mp ha with ha | ha
      · exact hA a ha
      · have : a = mkN ls at_ o1 := by simpa using ha
        rw [this]
        exact n1
    · have : a = mkN ls at_ o2 := by simpa using ha
      rw [this]
      exact n2
  · have g1a := g1 o1
    have g1b := g1 o2
    have g2a := g2 o1
    have g2b := g2 o2
    clear g1 g2
    generalize (ls.take at_ ++ [o1] ++ ls.drop (at_ + 1)).map D.str = L1 at g2a j1
    generalize (ls.take at_ ++ [o2] ++ ls.drop (at_ + 1)).map D.str = L2 at g2b j2
    generalize (ls.take at_ ++ [o1]).map D.str = L3 at g1a g2a
    generalize (ls.take at_ ++ [o2]).map D.str = L4 at g1b g2b
    generalize (ls.take at_).map D.str = L5 at sl g1a g1b
    generalize (ls.drop (at_ + 1)).map D.str = L6 at sr g2a g2b
    generalize mkN ls at_ o1 = r1 at j1
    generalize mkN ls at_ o2 = r2 at j2
    have ll : A.length < 16777216 := by omega
    have ll2 : A.length + 1 < 16777216 := by omega
    unfold forBody
    simp only [bindPt_name, setVar_s, setVar_0]
    simp [nrB1, b_law_near, is, m6, iv, len_str fl, mi, c1, c2, c3, d1, d2, d3, sl, sr, g1a, g1b, g2a, g2b, j1, j2, ll, ll2]
end K78

namespace K78
open Cr PySem
theorem near_loop1 (n : Nat) {t ln : T} {ls : List T} {at_ : Nat} (N : Near t ls at_ ln) {c0 : Nat} {vs : List Nat} (hv : Drawn c0 vs) (hc : 7 ≤ c0) (signs : List T) (hs : ∀ w ∈ signs, w.length ≤ 10 ∧ Asc w) (hn : signs.length ≤ 100) (q : W) (u : Option W) : ∀ (ws : List T) (k : Nat) (A : List T) (x y z : Option W), signs.drop k = ws → (∀ a ∈ A, Fine a) → A.length + 2 * ws.length ≤ 1000000 →
    ∃ (A' : List T) (x' y' z' : Option W), (∀ a ∈ A', Fine a) ∧ A'.length = A.length + 2 * ws.length ∧ forLoop (forBody (.name 7) (evSs (run Ga n) Ga.gl nrB1)) ((List.range' k ws.length).map nD) [some q, some (.d (.list (vs.map nD))), some (.d (.list (signs.map .str))), some (.d (.list (ls.map .str))), some (.d (.int (at_ : Int))), some (.d (.str ln)), some (.ref 0), x, y, z, u] [dl (A.map .str)] =
      .ok .next [some q, some (.d (.list (vs.map nD))), some (.d (.list (signs.map .str))), some (.d (.list (ls.map .str))), some (.d (.int (at_ : Int))), some (.d (.str ln)), some (.ref 0), x', y', z', u] [dl (A'.map .str)]
  | [], k, A, x, y, z, _, hA, _ => ⟨A, x, y, z, hA, rfl, by simp [forLoop]⟩
  | w :: ws, k, A, x, y, z, hd, hA, hl => by
    have hl : A.length + 2 * (ws.length + 1) ≤ 1000000 := hl
    have hk : signs[k]? = some w := by
      have := congrArg (fun l => l[0]?) hd
      simpa using this
    obtain ⟨w1, w2⟩ := hs w (List.mem_of_getElem? hk)
    obtain ⟨A1, y1, z1, g1, g2, e⟩ := near_step1 n N hv hc signs k w hk w1 w2 q A hA (by omega) x y z u
    obtain ⟨A2, x2, y2, z2, g3, g4, e2⟩ := near_loop1 n N hv hc signs hs hn q u ws (k + 1) A1 (some (.d (.int (k : Int)))) y1 z1 (by rw [← List.drop_drop, hd]; rfl) g1 (by omega)
    refine ⟨A2, x2, y2, z2, g3, by rw [g4, g2]; simp; omega, ?_⟩
    rw [List.length_cons, List.range'_succ, List.map_cons, forLoop, e]
    exact e2
theorem near_step2 (n : Nat) {t ln : T} {ls : List T} {at_ : Nat} (N : Near t ls at_ ln) (one : T) (h1 : one.length ≤ 9000) (h2 : Asc one) (A : List T) (hA : ∀ a ∈ A, Fine a) (hl : A.length ≤ 1000000) (a0 a1 a2 x y z u : Option W) :
    (∀ a ∈ A ++ [mkN ls at_ one], Fine a) ∧ forBody (.name 10) (evSs (run Ga n) Ga.gl nrB2) (.str one) [a0, a1, a2, some (.d (.list (ls.map .str))), some (.d (.int (at_ : Int))), some (.d (.str ln)), some (.ref 0), x, y, z, u] [dl (A.map .str)] =
      .ok .next [a0, a1, a2, some (.d (.list (ls.map .str))), some (.d (.int (at_ : Int))), some (.d (.str ln)), some (.ref 0), x, y, z, some (.d (.str one))] [dl ((A ++ [mkN ls at_ one]).map .str)] := by
  obtain ⟨s1, s2, s3⟩ := N.lsz
  obtain ⟨n1, j1⟩ := N.make h1 h2
  have sl : sliceD (.list (ls.map .str)) none (some (at_ : Int)) = some (.list ((ls.take at_).map .str)) := slL
  have sr : sliceD (.list (ls.map .str)) (some ((at_ : Int) + 1)) none = some (.list ((ls.drop (at_ + 1)).map .str)) := by
    rw [show (at_ : Int) + 1 = ((at_ + 1 : Nat) : Int) by omega]
    exact slR
  have tl : (ls.take at_).length ≤ 5000 := by rw [List.length_take]; omega
  have dl' : (ls.drop (at_ + 1)).length ≤ 5000 := by rw [List.length_drop]; omega
  have g1a : binD .Add (.list ((ls.take at_).map .str)) (.list [.str one]) = some (.list ((ls.take at_ ++ [one]).map .str)) := addL (ys := [one]) (by omega) (by simp)
  have g2a : binD .Add (.list ((ls.take at_ ++ [one]).map .str)) (.list ((ls.drop (at_ + 1)).map .str)) = some (.list ((ls.take at_ ++ [one] ++ ls.drop (at_ + 1)).map .str)) := addL (by simp; omega) (by omega)
  refine ⟨fun a ha => ?_, ?_⟩
  · rcases List.mem_append.mp ha with ha | ha
    · exact hA a ha
    · have : a = mkN ls at_ one := by simpa using ha
      rw [this]
      exact n1
  · generalize (ls.take at_ ++ [one] ++ ls.drop (at_ + 1)).map D.str = L1 at g2a j1
    generalize (ls.take at_ ++ [one]).map D.str = L3 at g1a g2a
    generalize (ls.take at_).map D.str = L5 at sl g1a
    generalize (ls.drop (at_ + 1)).map D.str = L6 at sr g2a
    generalize mkN ls at_ one = r1 at j1
    have ll : A.length < 16777216 := by omega
    unfold forBody
    simp only [bindPt_name, setVar_s, setVar_0]
    simp [nrB2, b_law_near, sl, sr, g1a, g2a, j1, ll]
theorem near_loop2 (n : Nat) {t ln : T} {ls : List T} {at_ : Nat} (N : Near t ls at_ ln) (a0 a1 a2 x y z : Option W) : ∀ (os : List T) (A : List T) (u : Option W), (∀ o ∈ os, o.length ≤ 9000 ∧ Asc o) → (∀ a ∈ A, Fine a) → A.length + os.length ≤ 1000000 →
    ∃ (A' : List T) (u' : Option W), (∀ a ∈ A', Fine a) ∧ A'.length = A.length + os.length ∧ forLoop (forBody (.name 10) (evSs (run Ga n) Ga.gl nrB2)) (os.map .str) [a0, a1, a2, some (.d (.list (ls.map .str))), some (.d (.int (at_ : Int))), some (.d (.str ln)), some (.ref 0), x, y, z, u] [dl (A.map .str)] =
      .ok .next [a0, a1, a2, some (.d (.list (ls.map .str))), some (.d (.int (at_ : Int))), some (.d (.str ln)), some (.ref 0), x, y, z, u'] [dl (A'.map .str)]
  | [], A, u, _, hA, _ => ⟨A, u, hA, rfl, by simp [forLoop]⟩
  | o :: os, A, u, ho, hA, hl => by
    have hl : A.length + (os.length + 1) ≤ 1000000 := hl
    obtain ⟨h1, h2⟩ := ho o (by simp)
    obtain ⟨g1, e⟩ := near_step2 n N o h1 h2 A hA (by omega) a0 a1 a2 x y z u
    obtain ⟨A2, u2, g3, g4, e2⟩ := near_loop2 n N a0 a1 a2 x y z os (A ++ [mkN ls at_ o]) (some (.d (.str o))) (fun p hp => ho p (by simp [hp])) g1 (by simp; omega)
    refine ⟨A2, u2, g3, by rw [g4]; simp; omega, ?_⟩
    rw [List.map_cons, forLoop, e]
    exact e2
theorem repl_nil (c : Nat) : ∀ l : T, PySem.StrLaws.replL [c] [] l = l.filter fun x => !decide (x = c)
  | [] => PySem.StrLaws.replL_nil
  | x :: l => by
    by_cases h : x = c
    · rw [PySem.StrLaws.replL_hit (by simp) (by simp [h])]
      show [] ++ PySem.StrLaws.replL [c] [] l = _
      rw [repl_nil c l]
      simp [h]
    · rw [PySem.StrLaws.replL_miss (by simpa using h), repl_nil c l]
      simp [h]
theorem repD_nil (t : T) (h : t.length ≤ 1000000) : repD [10] [] (.str t) = some (.str (t.filter fun x => !decide (x = 10))) := by
  have f : fits (t.length + (t.length + 1) * ([] : List Nat).length) = true := fits_of (by simp; omega)
  simp only [repD]
  rw [f, repl_nil]
  simp
theorem cut_m1 {α : Type} (xs : List α) : (cut xs none (some (-1))).length ≤ xs.length ∧ ∀ x ∈ cut xs none (some (-1)), x ∈ xs := by
  unfold cut
  refine ⟨?_, fun x hx => List.mem_of_mem_drop (List.mem_of_mem_take hx)⟩
  rw [List.length_take, List.length_drop]
  omega
theorem law_near_run (n : Nat) (t : T) (ht : t.length ≤ 4000) (ha : Asc t) {c0 : Nat} {vs : List Nat} (hv : Drawn c0 vs) (hc : 7 ≤ c0) (signs : List T) (hs : ∀ w ∈ signs, w.length ≤ 10 ∧ Asc w) (hn : signs.length ≤ 100) :
    ∃ cs : List T, (∀ c ∈ cs, Fine c) ∧ pcall (run Ga (n + 1)) "_law_near" [.d (.str t), .d (.list (vs.map nD)), .d (.list (signs.map .str))] = M.pure (.list (cs.map .str)) := by
  have sp : mtD .split (.str t) [.str [10]] = some (.list ((lines t).map .str)) := split_E (by decide) (by omega)
  have ne : lines t ≠ [] := split_ne 10 t
  have l0 : 0 < (lines t).length := by
    cases e : lines t with
    | nil => exact absurd e ne
    | cons _ _ => simp
  have i0 := drawn_ix hv (k := 0) (by omega)
  generalize vs.getD 0 0 = v0 at i0
  have i0 : idxD (.list (vs.map nD)) (.int 0) = some (nD v0) := i0
  have md : binD .Mod (nD v0) (.int ((lines t).length : Int)) = some (.int ((v0 % (lines t).length : Nat) : Int)) := mdN l0
  have al := Nat.mod_lt v0 l0
  generalize v0 % (lines t).length = at_ at md al
  obtain ⟨ln, hln⟩ : ∃ ln, (lines t)[at_]? = some ln := ⟨_, List.getElem?_eq_getElem al⟩
  have N : Near t (lines t) at_ ln := ⟨ht, ha, rfl, hln⟩
  obtain ⟨q1, q2⟩ := N.lnl
  obtain ⟨s1, s2, s3⟩ := N.lsz
  have il : idxD (.list ((lines t).map .str)) (.int (at_ : Int)) = some (.str ln) := idx_listE (by rw [List.getElem?_map, hln]; rfl)
  obtain ⟨init, last, elast⟩ : ∃ init last, lines t = init ++ [last] := by
    rcases last_cases (lines t) with h | h
    · exact absurd h ne
    · exact h
  have ilast : idxD (.list ((lines t).map .str)) (.int (-1)) = some (.str last) := by rw [elast, List.map_append]; exact L2.atI_last _ _
  have mlast : last ∈ lines t := by rw [elast]; simp
  have llast : last.length ≤ 4000 := by have := split_len mlast; omega
  have alast : Asc last := s3 last mlast
  have one : ∀ c, c < 1114112 → Asc [c] := fun c h d hd => by
    have : d = c := by simpa using hd
    rw [this]
    exact h
  have b1 : binD .Add (.str t) (.str [10]) = some (.str (t ++ [10])) := add_str (by simp; omega)
  have b2 : binD .Add (.str [10]) (.str t) = some (.str ([10] ++ t)) := add_str (by simp; omega)
  have b3 : binD .Add (.str [61, 10]) (.str t) = some (.str ([61, 10] ++ t)) := add_str (by simp; omega)
  have b4 : binD .Add (.str t) (.str [10, 61]) = some (.str (t ++ [10, 61])) := add_str (by simp; omega)
  have b5 : binD .Add (.str (t ++ [10])) (.str last) = some (.str (t ++ [10] ++ last)) := add_str (by simp; omega)
  have rp := repD_nil t (by omega)
  have lrp : (t.filter fun x => !decide (x = 10)).length ≤ t.length := List.length_filter_le ..
  have arp : Asc (t.filter fun x => !decide (x = 10)) := fun c hc => ha c (List.mem_filter.mp hc).1
  generalize (t.filter fun x => !decide (x = 10)) = tf at rp lrp arp
  have two : ∀ c d, c < 1114112 → d < 1114112 → Asc [c, d] := fun c d h1 h2 e he => by
    simp only [List.mem_cons, List.not_mem_nil, or_false] at he
    rcases he with rfl | rfl
    · exact h1
    · exact h2
  have A0 : ∀ a ∈ [t, [], [10], t ++ [10], [10] ++ t, [61], [61, 10] ++ t, t ++ [10, 61], t ++ [10] ++ last, tf], Fine a := fun a h => by
    simp only [List.mem_cons, List.not_mem_nil, or_false] at h
    rcases h with rfl | rfl | rfl | rfl | rfl | rfl | rfl | rfl | rfl | rfl
    · exact ⟨by omega, ha⟩
    · exact ⟨by simp, fun c hc => by cases hc⟩
    · exact ⟨by simp, one _ (by decide)⟩
    · exact ⟨by simp; omega, ha.app (one _ (by decide))⟩
    · exact ⟨by simp; omega, (one _ (by decide)).app ha⟩
    · exact ⟨by simp, one _ (by decide)⟩
    · exact ⟨by simp; omega, (two _ _ (by decide) (by decide)).app ha⟩
    · exact ⟨by simp; omega, ha.app (two _ _ (by decide) (by decide))⟩
    · exact ⟨by simp; omega, (ha.app (one _ (by decide))).app alast⟩
    · exact ⟨by omega, arp⟩
  obtain ⟨A1, x1, y1, z1, g1, g2, e1⟩ := near_loop1 n N hv hc signs hs hn (.d (.str t)) none signs 0 _ none none none rfl A0 (by simp; omega)
  have fl : fits ln.length = true := fits_of (by omega)
  obtain ⟨m1, m2⟩ := cut_m1 ln
  have cm : sliceD (.str ln) none (some (-1)) = some (.str (cut ln none (some (-1)))) := slice_strE fl
  generalize cut ln none (some (-1)) = lc at m1 m2 cm
  have o1 : binD .Add (.str ln) (.str [32, 48]) = some (.str (ln ++ [32, 48])) := add_str (by simp; omega)
  have o2 : binD .Add (.str [48, 32]) (.str ln) = some (.str ([48, 32] ++ ln)) := add_str (by simp; omega)
  have o3 : binD .Add (.str ln) (.str [32, 49]) = some (.str (ln ++ [32, 49])) := add_str (by simp; omega)
  have o4 : binD .Add (.str ln) (.str ln) = some (.str (ln ++ ln)) := add_str (by omega)
  have O0 : ∀ o ∈ [[], [61], ln ++ [32, 48], [48, 32] ++ ln, ln ++ [32, 49], lc, [48], ln ++ ln], o.length ≤ 9000 ∧ Asc o := fun o h => by
    simp only [List.mem_cons, List.not_mem_nil, or_false] at h
    rcases h with rfl | rfl | rfl | rfl | rfl | rfl | rfl | rfl
    · exact ⟨by simp, fun c hc => by cases hc⟩
    · exact ⟨by simp, one _ (by decide)⟩
    · exact ⟨by simp; omega, q2.app (two _ _ (by decide) (by decide))⟩
    · exact ⟨by simp; omega, (two _ _ (by decide) (by decide)).app q2⟩
    · exact ⟨by simp; omega, q2.app (two _ _ (by decide) (by decide))⟩
    · exact ⟨by omega, fun c hc => q2 c (m2 c hc)⟩
    · exact ⟨by simp, one _ (by decide)⟩
    · exact ⟨by simp; omega, q2.app q2⟩
  obtain ⟨A2, u2, g3, g4, e2⟩ := near_loop2 n N (some (.d (.str t))) (some (.d (.list (vs.map nD)))) (some (.d (.list (signs.map .str)))) x1 y1 z1 _ A1 none O0 g1 (by rw [g2]; simp; omega)
  have sl : ∀ k : Nat, sliceD (.list ((lines t).map .str)) none (some (k : Int)) = some (.list (((lines t).take k).map .str)) := fun k => slL
  have sr : ∀ k : Nat, sliceD (.list ((lines t).map .str)) (some (k : Int)) none = some (.list (((lines t).drop k).map .str)) := fun k => slR
  have tk : ∀ k, ((lines t).take k).length ≤ 5000 := fun k => by rw [List.length_take]; omega
  have dk : ∀ k, ((lines t).drop k).length ≤ 5000 := fun k => by rw [List.length_drop]; omega
  have f1 : binD .Add (.list (((lines t).take at_).map .str)) (.list (((lines t).drop (at_ + 1)).map .str)) = some (.list (((lines t).take at_ ++ (lines t).drop (at_ + 1)).map .str)) := addL (by have := tk at_; omega) (by have := dk (at_ + 1); omega)
  have f2 : binD .Add (.list (((lines t).take (at_ + 1)).map .str)) (.list (((lines t).drop at_).map .str)) = some (.list (((lines t).take (at_ + 1) ++ (lines t).drop at_).map .str)) := addL (by have := tk (at_ + 1); omega) (by have := dk at_; omega)
  have z1' : size ((lines t).take at_ ++ (lines t).drop (at_ + 1)) ≤ 4001 := by
    rw [size_app]
    have := take_size (lines t) at_
    have := drop_size (lines t) at_
    omega
  have z2' : size ((lines t).take (at_ + 1) ++ (lines t).drop at_) ≤ 8002 := by
    rw [size_app]
    have := take_size (lines t) at_
    have := take_size (lines t) (at_ + 1)
    omega
  have j1 := size_join (ps := (lines t).take at_ ++ (lines t).drop (at_ + 1)) (by omega)
  have j2 := size_join (ps := (lines t).take (at_ + 1) ++ (lines t).drop at_) (by omega)
  have fine : ∀ ps : List T, size ps ≤ 9000 → (∀ p ∈ ps, p ∈ lines t) → Fine (joinC [10] ps) := fun ps h h2 => ⟨by have := join_size ps; omega, Asc.join (one _ (by decide)) fun p hp => s3 p (h2 p hp)⟩
  have fa := fine _ (by omega : size ((lines t).take at_ ++ (lines t).drop (at_ + 1)) ≤ 9000) (fun p hp => by
    rcases List.mem_append.mp hp with h | h
    · exact List.mem_of_mem_take h
    · exact List.mem_of_mem_drop h)
  have fb := fine _ (by omega : size ((lines t).take (at_ + 1) ++ (lines t).drop at_) ≤ 9000) (fun p hp => by
    rcases List.mem_append.mp hp with h | h
    · exact List.mem_of_mem_take h
    · exact List.mem_of_mem_drop h)
  have sla := sl at_
  have slb : sliceD (.list ((lines t).map .str)) none (some ((at_ : Int) + 1)) = some (.list (((lines t).take (at_ + 1)).map .str)) := sl (at_ + 1)
  have sra := sr at_
  have srb : sliceD (.list ((lines t).map .str)) (some ((at_ : Int) + 1)) none = some (.list (((lines t).drop (at_ + 1)).map .str)) := sr (at_ + 1)
  refine ⟨A2 ++ [joinC [10] ((lines t).take at_ ++ (lines t).drop (at_ + 1))] ++ [joinC [10] ((lines t).take (at_ + 1) ++ (lines t).drop at_)], fun c hc' => ?_, ?_⟩
  · rcases List.mem_append.mp hc' with h | h
    · rcases List.mem_append.mp h with h | h
      · exact g3 c h
      · have : c = _ := List.mem_singleton.mp h
        rw [this]
        exact fa
    · have : c = _ := List.mem_singleton.mp h
      rw [this]
      exact fb
  · generalize ((lines t).take at_ ++ (lines t).drop (at_ + 1)).map D.str = L1 at f1 j1
    generalize ((lines t).take (at_ + 1) ++ (lines t).drop at_).map D.str = L2 at f2 j2
    generalize joinC [10] ((lines t).take at_ ++ (lines t).drop (at_ + 1)) = r1 at j1 ⊢
    generalize joinC [10] ((lines t).take (at_ + 1) ++ (lines t).drop at_) = r2 at j2 ⊢
    generalize ((lines t).take at_).map D.str = L3 at f1 sla
    generalize ((lines t).drop (at_ + 1)).map D.str = L4 at f1 srb
    generalize ((lines t).take (at_ + 1)).map D.str = L5 at f2 slb
    generalize ((lines t).drop at_).map D.str = L6 at f2 sra
    have rg : rangeD [.int (signs.length : Int)] = some ((List.range' 0 signs.length).map nD) := by
      rw [range1' (by omega), List.range_eq_range']
    have ll : A2.length < 16777216 := by rw [g4, g2]; simp; omega
    have ll2 : A2.length + 1 < 16777216 := by rw [g4, g2]; simp; omega
    simp only [nrB1, b_law_near] at e1
    simp only [nrB2, b_law_near] at e2
    have go : run Ga (n + 1) "_law_near" [.d (.str t), .d (.list (vs.map nD)), .d (.list (signs.map .str))] [] = .ok (.ref 0) [dl ((A2 ++ [r1] ++ [r2]).map .str)] := by
      rw [run_fn f_ln rfl]
      simp only [b_law_near]
      rw [show startE 11 [W.d (.str t), W.d (.list (vs.map nD)), W.d (.list (signs.map .str))] = [some (.d (.str t)), some (.d (.list (vs.map nD))), some (.d (.list (signs.map .str))), none, none, none, none, none, none, none, none] from rfl]
      rw [step_asg (w := .d (.list ((lines t).map .str))) (by simp [sp])]
      rw [step_asg (w := .d (.int (at_ : Int))) (by simp [i0, md])]
      rw [step_asg (w := .d (.str ln)) (by simp [il])]
      rw [step_asgM (w := .ref 0) (s' := [dl ([t, [], [10], t ++ [10], [10] ++ t, [61], [61, 10] ++ t, t ++ [10, 61], t ++ [10] ++ last, tf].map .str)]) (by
        generalize [10] ++ t = t1 at b2 ⊢
        generalize t ++ [10] ++ last = t2 at b5 ⊢
        generalize t ++ [10] = t3 at b1 b5 ⊢
        generalize [61, 10] ++ t = t4 at b3 ⊢
        generalize t ++ [10, 61] = t5 at b4 ⊢
        simp [b1, b2, b3, b4, b5, ilast, un_m1, rp]
        rfl)]
      simp only [setVar_s, setVar_0]
      rw [step_for (by simp [rg, -range1_E]) e1]
      rw [step_for (xs := [[], [61], ln ++ [32, 48], [48, 32] ++ ln, ln ++ [32, 49], lc, [48], ln ++ ln].map .str) (by
        generalize ln ++ [32, 48] = t1 at o1 ⊢
        generalize [48, 32] ++ ln = t2 at o2 ⊢
        generalize ln ++ [32, 49] = t3 at o3 ⊢
        generalize ln ++ ln = t4 at o4 ⊢
        simp [o1, o2, o3, o4, cm, unD]) e2]
      rw [step_st (ρ' := [some (.d (.str t)), some (.d (.list (vs.map nD))), some (.d (.list (signs.map .str))), some (.d (.list ((lines t).map .str))), some (.d (.int (at_ : Int))), some (.d (.str ln)), some (.ref 0), x1, y1, z1, u2]) (s' := [dl ((A2 ++ [r1]).map .str)]) (by simp [sla, srb, f1, j1, ll])]
      rw [step_st (ρ' := [some (.d (.str t)), some (.d (.list (vs.map nD))), some (.d (.list (signs.map .str))), some (.d (.list ((lines t).map .str))), some (.d (.int (at_ : Int))), some (.d (.str ln)), some (.ref 0), x1, y1, z1, u2]) (s' := [dl ((A2 ++ [r1] ++ [r2]).map .str)]) (by simp [slb, sra, f2, j2, ll2])]
      simp
    exact pcall_ds (xs := [.str t, .list (vs.map nD), .list (signs.map .str)]) go (freeze_dl rfl)
end K78

namespace K78
open Cr PySem
theorem f_law : Ga.fn "law" = some b_law := by kernel_rfl
theorem adN {a b : Nat} : binD .Add (.int (a : Int)) (.int (b : Int)) = some (.int ((a + b : Nat) : Int)) := by
  rw [add_int]
  rfl
theorem mlN {a b : Nat} (h : a < 4294967296) : binD .Mult (.int (a : Int)) (.int (b : Int)) = some (.int ((a * b : Nat) : Int)) := by
  rw [mulL (small_m (by omega) (by omega))]
  rfl
theorem dvN {a b : Nat} (h : 0 < b) (h2 : b < 1073741824) : binD .FloorDiv (.int (a : Int)) (.int (b : Int)) = some (.int ((a / b : Nat) : Int)) := by
  rw [div_int' (by omega) (by omega)]
  rfl
def picE : E := match b_law.body.getD 4 .bad with
  | .asg _ e => e
  | _ => .bad
def pv (us : List Nat) (i j : Nat) : Nat := (us.getD ((i + 7 * j) % 60) 0 + i * us.getD (j % 60) 0) % 17
def picL (us : List Nat) (w h : Nat) : List (List Nat) := (List.range h).map fun j => (List.range w).map fun i => pv us i j
theorem picL_pic {us : List Nat} {w h : Nat} (w1 : 1 ≤ w) (w2 : w ≤ 300) (h1 : 1 ≤ h) (h2 : h ≤ 300) : Pic w 16 (picL us w h) := by
  refine ⟨?_, by simp [picL]; omega, fun r hr => ?_, w1, w2, fun r hr v hv => ?_⟩
  · intro e
    have := congrArg List.length e
    simp [picL] at this
    omega
  · obtain ⟨j, _, rfl⟩ := List.mem_map.mp hr
    simp
  · obtain ⟨j, _, rfl⟩ := List.mem_map.mp hr
    obtain ⟨i, _, rfl⟩ := List.mem_map.mp hv
    have := Nat.mod_lt (us.getD ((i + 7 * j) % 60) 0 + i * us.getD (j % 60) 0) (show 17 > 0 by decide)
    unfold pv
    omega
theorem pic_v (run' : Str → List W → M W) {us : List Nat} (hu : Drawn 60 us) (w h : Nat) (w2 : w ≤ 300) (h2 : h ≤ 300) (a b : Option W) (c5 c6 c7 c8 c9 c10 c11 c12 c13 c14 c15 : Option W) :
    (sem run' Ga.gl picE).v [a, b, some (.d (.list (us.map nD))), some (.d (.int (w : Int))), some (.d (.int (h : Int))), c5, c6, c7, c8, c9, c10, c11, c12, c13, c14, c15] = M.pure (.d (picD (picL us w h))) := by
  have rh : rangeD [.int (h : Int)] = some ((List.range h).map nD) := range1' (by omega)
  have rw_ : rangeD [.int (w : Int)] = some ((List.range w).map nD) := range1' (by omega)
  simp only [picE, b_law, List.getD_cons_succ, List.getD_cons_zero]
  simp [rh, -range1_E]
  rw [lc_g nD (fun j => rowD ((List.range w).map fun i => pv us i j)) (fun j hj => by
    have hj := List.mem_range.mp hj
    have j60 : binD .Mod (nD j) (.int 60) = some (.int ((j % 60 : Nat) : Int)) := mdN (b := 60) (by decide)
    have ij := drawn_ix hu (k := j % 60) (Nat.mod_lt _ (by decide))
    have m7 : binD .Mult (.int 7) (nD j) = some (.int ((7 * j : Nat) : Int)) := mlN (a := 7) (by decide)
    simp [lcBody_eq, rw_, -range1_E]
    rw [lc_g nD (fun i => nD (pv us i j)) (fun i hi => by
      have hi := List.mem_range.mp hi
      have a1 : binD .Add (nD i) (.int ((7 * j : Nat) : Int)) = some (.int ((i + 7 * j : Nat) : Int)) := adN
      have a2 : binD .Mod (.int ((i + 7 * j : Nat) : Int)) (.int 60) = some (.int (((i + 7 * j) % 60 : Nat) : Int)) := mdN (b := 60) (by decide)
      have a3 := drawn_ix hu (k := (i + 7 * j) % 60) (Nat.mod_lt _ (by decide))
      have a4 : binD .Mult (nD i) (nD (us.getD (j % 60) 0)) = some (.int ((i * us.getD (j % 60) 0 : Nat) : Int)) := mlN (by omega)
      have a5 : binD .Add (nD (us.getD ((i + 7 * j) % 60) 0)) (.int ((i * us.getD (j % 60) 0 : Nat) : Int)) = some (.int ((us.getD ((i + 7 * j) % 60) 0 + i * us.getD (j % 60) 0 : Nat) : Int)) := adN
      have a6 : binD .Mod (.int ((us.getD ((i + 7 * j) % 60) 0 + i * us.getD (j % 60) 0 : Nat) : Int)) (.int 17) = some (nD (pv us i j)) := mdN (b := 17) (by decide)
      generalize pv us i j = z at a6 ⊢
      generalize us.getD ((i + 7 * j) % 60) 0 + i * us.getD (j % 60) 0 = y1 at a5 a6
      generalize i * us.getD (j % 60) 0 = y2 at a4 a5
      generalize us.getD ((i + 7 * j) % 60) 0 = y3 at a3 a5
      generalize us.getD (j % 60) 0 = y4 at ij a4
      generalize (i + 7 * j) % 60 = y5 at a2 a3
      generalize i + 7 * j = y6 at a1 a2
      generalize 7 * j = y7 at m7 a1
      generalize j % 60 = y8 at j60 ij
      simp [lcBody_eq, j60, ij, m7, a1, a2, a3, a4, a5, a6]) (by simp; omega)]
    simp [rowD]
    rfl) (by simp; omega)]
  simp [picD, picL]
  rfl
def plB : List S := match b_law.body.getD 6 .bad with
  | .for _ _ b => b
  | _ => []
def plRow : E := match plB with | [.asg _ e, _, _] => e | _ => .bad
theorem plRow_eq : plRow = (.lc false (.bi false .int [(.cmp .Eq (.bin false .Mod (.bin false .Add (.idx (.var 2) (.bin false .Mod (.bin false .Add (.bin false .FloorDiv (.var 15) (.bin false .Add (.con (.int 1)) (.bin false .Mod (.idx (.var 1) (.con (.int 4))) (.con (.int 6))))) (.bin false .Mult (.con (.int 11)) (.var 7))) (.con (.int 60)))) (.var 7)) (.con (.int 3))) (.con (.int 0)))]) (.name 15) (.range [(.var 3)]) [] [15]) := by kernel_rfl
def bv (vs us : List Nat) (i j : Nat) : Nat := if (us.getD ((i / (1 + vs.getD 4 0 % 6) + 11 * j) % 60) 0 + j) % 3 = 0 then 1 else 0
def bRow (vs us : List Nat) (w j : Nat) : List Nat := (List.range w).map fun i => bv vs us i j
theorem bool_int (b : Bool) : biD .int [.bool b] = some (.int (if b then 1 else 0)) := rfl
theorem brow_v (run' : Str → List W → M W) {vs us : List Nat} (hv : Drawn 60 vs) (hu : Drawn 60 us) (w j : Nat) (w2 : w ≤ 300) (j2 : j < 300) (a c4 c5 c6 c8 c9 c10 c11 c12 c13 c14 c15 : Option W) :
    (sem run' Ga.gl plRow).v [a, some (.d (.list (vs.map nD))), some (.d (.list (us.map nD))), some (.d (.int (w : Int))), c4, c5, c6, some (.d (nD j)), c8, c9, c10, c11, c12, c13, c14, c15] = M.pure (.d (rowD (bRow vs us w j))) := by
  have rw_ : rangeD [.int (w : Int)] = some ((List.range w).map nD) := range1' (by omega)
  have i4 := drawn_ix hv (k := 4) (by decide)
  have i4 : idxD (.list (vs.map nD)) (.int 4) = some (nD (vs.getD 4 0)) := i4
  have m6 : binD .Mod (nD (vs.getD 4 0)) (.int 6) = some (.int ((vs.getD 4 0 % 6 : Nat) : Int)) := mdN (b := 6) (by decide)
  have a0 : binD .Add (.int 1) (.int ((vs.getD 4 0 % 6 : Nat) : Int)) = some (.int ((1 + vs.getD 4 0 % 6 : Nat) : Int)) := adN (a := 1)
  have m11 : binD .Mult (.int 11) (nD j) = some (.int ((11 * j : Nat) : Int)) := mlN (a := 11) (by decide)
  have lt6 := Nat.mod_lt (vs.getD 4 0) (show 6 > 0 by decide)
  rw [plRow_eq]
  simp [rw_, -range1_E]
  rw [lc_g nD (fun i => nD (bv vs us i j)) (fun i hi => by
    have a1 : binD .FloorDiv (nD i) (.int ((1 + vs.getD 4 0 % 6 : Nat) : Int)) = some (.int ((i / (1 + vs.getD 4 0 % 6) : Nat) : Int)) := dvN (by omega) (by omega)
    have a2 : binD .Add (.int ((i / (1 + vs.getD 4 0 % 6) : Nat) : Int)) (.int ((11 * j : Nat) : Int)) = some (.int ((i / (1 + vs.getD 4 0 % 6) + 11 * j : Nat) : Int)) := adN
    have a3 : binD .Mod (.int ((i / (1 + vs.getD 4 0 % 6) + 11 * j : Nat) : Int)) (.int 60) = some (.int (((i / (1 + vs.getD 4 0 % 6) + 11 * j) % 60 : Nat) : Int)) := mdN (b := 60) (by decide)
    have a4 := drawn_ix hu (k := (i / (1 + vs.getD 4 0 % 6) + 11 * j) % 60) (Nat.mod_lt _ (by decide))
    have a5 : binD .Add (nD (us.getD ((i / (1 + vs.getD 4 0 % 6) + 11 * j) % 60) 0)) (nD j) = some (.int ((us.getD ((i / (1 + vs.getD 4 0 % 6) + 11 * j) % 60) 0 + j : Nat) : Int)) := adN
    have a6 : binD .Mod (.int ((us.getD ((i / (1 + vs.getD 4 0 % 6) + 11 * j) % 60) 0 + j : Nat) : Int)) (.int 3) = some (.int (((us.getD ((i / (1 + vs.getD 4 0 % 6) + 11 * j) % 60) 0 + j) % 3 : Nat) : Int)) := mdN (b := 3) (by decide)
    unfold bv
    generalize (us.getD ((i / (1 + vs.getD 4 0 % 6) + 11 * j) % 60) 0 + j) % 3 = y0 at a6 ⊢
    generalize us.getD ((i / (1 + vs.getD 4 0 % 6) + 11 * j) % 60) 0 + j = y1 at a5 a6
    generalize us.getD ((i / (1 + vs.getD 4 0 % 6) + 11 * j) % 60) 0 = y2 at a4 a5
    generalize (i / (1 + vs.getD 4 0 % 6) + 11 * j) % 60 = y3 at a3 a4
    generalize i / (1 + vs.getD 4 0 % 6) + 11 * j = y4 at a2 a3
    generalize i / (1 + vs.getD 4 0 % 6) = y5 at a1 a2
    generalize 1 + vs.getD 4 0 % 6 = y6 at a0 a1
    generalize vs.getD 4 0 % 6 = y7 at m6 a0
    generalize vs.getD 4 0 = y8 at i4 m6
    generalize 11 * j = y9 at m11 a2
    by_cases h : y0 = 0
    · subst h
      simp [lcBody_eq, i4, m6, a0, m11, a1, a2, a3, a4, a5, a6, bool_int]
      rfl
    · have h' : ¬ (y0 : Int) = 0 := by omega
      simp [lcBody_eq, i4, m6, a0, m11, a1, a2, a3, a4, a5, a6, bool_int, h, h']
      rfl) (by simp; omega)]
  simp [rowD, bRow]
  rfl
theorem bRow_ok (vs us : List Nat) (w j : Nat) : (bRow vs us w j).length = w ∧ ∀ v ∈ bRow vs us w j, v ≤ 1 := by
  refine ⟨by simp [bRow], fun v hv => ?_⟩
  obtain ⟨i, _, rfl⟩ := List.mem_map.mp hv
  unfold bv
  split <;> omega
theorem rows_good {rows : List (List Nat)} : (rows.map rowD).all (D.good 2) = true := by
  rw [List.all_map]
  exact List.all_eq_true.mpr fun r _ => row_good r
theorem plB_eq : plB = .asg (.name 8) plRow :: [(.ite (.and (.cmp .NotEq (.var 6) (.list false [])) (.cmp .Eq (.bin false .Mod (.bin false .FloorDiv (.idx (.var 2) (.bin false .Mod (.var 7) (.con (.int 60)))) (.con (.int 9))) (.con (.int 3))) (.con (.int 0)))) [(.asg (.name 8) (.bi false .list [(.idx (.var 6) (.un .USub (.con (.int 1))))]))] []), (.expr (.app (.var 6) (.var 8)))] := by kernel_rfl
theorem fb_name (i : Nat) (b : Cr.Env → Store → SR) (x : D) (ρ : Cr.Env) (s : Store) : forBody (.name i) b x ρ s = b (setVar i (.d x) ρ) s := by
  unfold forBody
  rw [bindPt_name]
theorem pl_step (n : Nat) {vs us : List Nat} (hv : Drawn 60 vs) (hu : Drawn 60 us) (w j : Nat) (w2 : w ≤ 300) (j2 : j < 300) (rows : List (List Nat)) (hr : ∀ r ∈ rows, r.length = w ∧ ∀ v ∈ r, v ≤ 1) (hl : rows.length ≤ 1000) (a c4 c5 c7 c8 c9 c10 c11 c12 c13 c14 c15 : Option W) :
    ∃ r c8', (r.length = w ∧ ∀ v ∈ r, v ≤ 1) ∧ forBody (.name 7) (evSs (run Ga n) Ga.gl plB) (nD j) [a, some (.d (.list (vs.map nD))), some (.d (.list (us.map nD))), some (.d (.int (w : Int))), c4, c5, some (.ref 0), c7, c8, c9, c10, c11, c12, c13, c14, c15] [dl (rows.map rowD)] =
      .ok .next [a, some (.d (.list (vs.map nD))), some (.d (.list (us.map nD))), some (.d (.int (w : Int))), c4, c5, some (.ref 0), some (.d (nD j)), c8', c9, c10, c11, c12, c13, c14, c15] [dl ((rows ++ [r]).map rowD)] := by
  have bw := brow_v (run Ga n) hv hu w j w2 j2 a c4 c5 (some (.ref 0)) c8 c9 c10 c11 c12 c13 c14 c15
  obtain ⟨b1, b2⟩ := bRow_ok vs us w j
  generalize bRow vs us w j = r0 at bw b1 b2
  have j60 : binD .Mod (nD j) (.int 60) = some (.int ((j % 60 : Nat) : Int)) := mdN (b := 60) (by decide)
  have ij := drawn_ix hu (k := j % 60) (Nat.mod_lt _ (by decide))
  have d9 : binD .FloorDiv (nD (us.getD (j % 60) 0)) (.int 9) = some (.int ((us.getD (j % 60) 0 / 9 : Nat) : Int)) := dvN (b := 9) (by decide) (by decide)
  have m3 : binD .Mod (.int ((us.getD (j % 60) 0 / 9 : Nat) : Int)) (.int 3) = some (.int ((us.getD (j % 60) 0 / 9 % 3 : Nat) : Int)) := mdN (b := 3) (by decide)
  generalize us.getD (j % 60) 0 / 9 % 3 = y1 at m3
  generalize us.getD (j % 60) 0 / 9 = y2 at d9 m3
  generalize us.getD (j % 60) 0 = y3 at ij d9
  generalize j % 60 = y4 at j60 ij
  have ne := ne_nilE (n := 2) (by decide) (rows_good (rows := rows))
  rw [List.isEmpty_map] at ne
  have ll : rows.length < 16777216 := by omega
  rcases last_cases rows with rn | ⟨init, last, rn⟩
  · subst rn
    refine ⟨r0, some (.d (rowD r0)), ⟨b1, b2⟩, ?_⟩
    rw [fb_name]
    simp only [setVar_s, setVar_0]
    rw [plB_eq, step_asg bw]
    have ne : cmpD .NotEq (.list []) (.list []) = some false := ne
    simp [ne]
    rfl
  · have re : rows.isEmpty = false := by rw [rn]; cases init <;> rfl
    rw [re] at ne
    have ix1 : L2.atI (rows.map rowD) (-1) = some (rowD last) := by rw [rn, List.map_append]; exact L2.atI_last _ _
    by_cases h : y1 = 0
    · subst h
      refine ⟨last, some (.d (rowD last)), hr last (by rw [rn]; simp), ?_⟩
      rw [fb_name]
      simp only [setVar_s, setVar_0]
      rw [plB_eq, step_asg bw]
      simp [ne, j60, ij, d9, m3, un_m1, ixS_dl ix1, list_rowD, ll]
    · have h' : ¬ (y1 : Int) = 0 := by omega
      refine ⟨r0, some (.d (rowD r0)), ⟨b1, b2⟩, ?_⟩
      rw [fb_name]
      simp only [setVar_s, setVar_0]
      rw [plB_eq, step_asg bw]
      simp [ne, j60, ij, d9, m3, h, h', ll]
end K78

namespace K78
open Cr PySem
theorem pl_loop (n : Nat) {vs us : List Nat} (hv : Drawn 60 vs) (hu : Drawn 60 us) (w : Nat) (w2 : w ≤ 300) (a c4 c5 c9 c10 c11 c12 c13 c14 c15 : Option W) : ∀ (m k : Nat) (rows : List (List Nat)) (c7 c8 : Option W), k + m ≤ 300 → (∀ r ∈ rows, r.length = w ∧ ∀ v ∈ r, v ≤ 1) → rows.length ≤ 1000 - m → m ≤ 300 →
    ∃ (rows' : List (List Nat)) (c7' c8' : Option W), (∀ r ∈ rows', r.length = w ∧ ∀ v ∈ r, v ≤ 1) ∧ rows'.length = rows.length + m ∧ forLoop (forBody (.name 7) (evSs (run Ga n) Ga.gl plB)) ((List.range' k m).map nD) [a, some (.d (.list (vs.map nD))), some (.d (.list (us.map nD))), some (.d (.int (w : Int))), c4, c5, some (.ref 0), c7, c8, c9, c10, c11, c12, c13, c14, c15] [dl (rows.map rowD)] =
      .ok .next [a, some (.d (.list (vs.map nD))), some (.d (.list (us.map nD))), some (.d (.int (w : Int))), c4, c5, some (.ref 0), c7', c8', c9, c10, c11, c12, c13, c14, c15] [dl (rows'.map rowD)]
  | 0, k, rows, c7, c8, _, hr, _, _ => ⟨rows, c7, c8, hr, rfl, by simp [forLoop]⟩
  | m + 1, k, rows, c7, c8, hk, hr, hl, hm => by
    obtain ⟨r, c8', g1, e⟩ := pl_step n hv hu w k w2 (by omega) rows hr (by omega) a c4 c5 c7 c8 c9 c10 c11 c12 c13 c14 c15
    obtain ⟨rows', x, y, g2, g3, e2⟩ := pl_loop n hv hu w w2 a c4 c5 c9 c10 c11 c12 c13 c14 c15 m (k + 1) (rows ++ [r]) (some (.d (nD k))) c8' (by omega) (fun q hq => by
      rcases List.mem_append.mp hq with hq | hq
      · exact hr q hq
      · have : q = r := by simpa using hq
        rw [this]
        exact g1) (by simp; omega) (by omega)
    refine ⟨rows', x, y, g2, by rw [g3]; simp; omega, ?_⟩
    rw [List.range'_succ, List.map_cons, forLoop, e]
    exact e2
theorem size_ok (run' : Str → List W → M W) {vs : List Nat} (hv : Drawn 60 vs) (rest : List S) (a b : Option W) (s : Store) : ∃ w h : Nat, (1 ≤ w ∧ 1 ≤ h ∧ ((w ≤ 20 ∧ h ≤ 20) ∨ (w = 300 ∧ h ≤ 2) ∨ (w ≤ 2 ∧ h = 300))) ∧
    evSs run' Ga.gl (b_law.body.getD 2 .bad :: b_law.body.getD 3 .bad :: rest) [a, some (.d (.list (vs.map nD))), b, none, none, none, none, none, none, none, none, none, none, none, none, none] s =
      evSs run' Ga.gl rest [a, some (.d (.list (vs.map nD))), b, some (.d (.int (w : Int))), some (.d (.int (h : Int))), none, none, none, none, none, none, none, none, none, none, none] s := by
  have i0 := drawn_ix hv (k := 0) (by decide)
  have i1 := drawn_ix hv (k := 1) (by decide)
  have i2 := drawn_ix hv (k := 2) (by decide)
  have i3 := drawn_ix hv (k := 3) (by decide)
  generalize vs.getD 0 0 = v0 at i0
  generalize vs.getD 1 0 = v1 at i1
  generalize vs.getD 2 0 = v2 at i2
  generalize vs.getD 3 0 = v3 at i3
  have i0 : idxD (.list (vs.map nD)) (.int 0) = some (nD v0) := i0
  have i1 : idxD (.list (vs.map nD)) (.int 1) = some (nD v1) := i1
  have i2 : idxD (.list (vs.map nD)) (.int 2) = some (nD v2) := i2
  have i3 : idxD (.list (vs.map nD)) (.int 3) = some (nD v3) := i3
  have m0 : binD .Mod (nD v0) (.int 20) = some (.int ((v0 % 20 : Nat) : Int)) := mdN (b := 20) (by decide)
  have m1 : binD .Mod (nD v1) (.int 20) = some (.int ((v1 % 20 : Nat) : Int)) := mdN (b := 20) (by decide)
  have m2 : binD .Mod (nD v2) (.int 8) = some (.int ((v2 % 8 : Nat) : Int)) := mdN (b := 8) (by decide)
  have m3 : binD .Mod (nD v3) (.int 2) = some (.int ((v3 % 2 : Nat) : Int)) := mdN (b := 2) (by decide)
  have m02 : binD .Mod (nD v0) (.int 2) = some (.int ((v0 % 2 : Nat) : Int)) := mdN (b := 2) (by decide)
  have l0 := Nat.mod_lt v0 (show 20 > 0 by decide)
  have l1 := Nat.mod_lt v1 (show 20 > 0 by decide)
  have l02 := Nat.mod_lt v0 (show 2 > 0 by decide)
  have a0 : binD .Add (.int 1) (.int ((v0 % 20 : Nat) : Int)) = some (.int ((1 + v0 % 20 : Nat) : Int)) := adN (a := 1)
  have a1 : binD .Add (.int 1) (.int ((v1 % 20 : Nat) : Int)) = some (.int ((1 + v1 % 20 : Nat) : Int)) := adN (a := 1)
  have a02 : binD .Add (.int 1) (.int ((v0 % 2 : Nat) : Int)) = some (.int ((1 + v0 % 2 : Nat) : Int)) := adN (a := 1)
  have e2 : b_law.body.getD 2 .bad = (.asg (.tup [(.name 3), (.name 4)]) (.tup [(.bin false .Add (.con (.int 1)) (.bin false .Mod (.idx (.var 1) (.con (.int 0))) (.con (.int 20)))), (.bin false .Add (.con (.int 1)) (.bin false .Mod (.idx (.var 1) (.con (.int 1))) (.con (.int 20))))])) := by kernel_rfl
  have e3 : b_law.body.getD 3 .bad = (.ite (.cmp .Eq (.bin false .Mod (.idx (.var 1) (.con (.int 2))) (.con (.int 8))) (.con (.int 0))) [(.asg (.tup [(.name 3), (.name 4)]) (.idx (.list false [(.tup [(.con (.int 300)), (.bin false .Add (.con (.int 1)) (.bin false .Mod (.idx (.var 1) (.con (.int 0))) (.con (.int 2))))]), (.tup [(.bin false .Add (.con (.int 1)) (.bin false .Mod (.idx (.var 1) (.con (.int 0))) (.con (.int 2)))), (.con (.int 300))])]) (.bin false .Mod (.idx (.var 1) (.con (.int 3))) (.con (.int 2)))))] []) := by kernel_rfl
  rw [e2, e3]
  obtain ⟨w0, hw0⟩ : ∃ w0, w0 = 1 + v0 % 20 := ⟨_, rfl⟩
  obtain ⟨h0, hh0⟩ : ∃ h0, h0 = 1 + v1 % 20 := ⟨_, rfl⟩
  obtain ⟨t0, ht0⟩ : ∃ t0, t0 = 1 + v0 % 2 := ⟨_, rfl⟩
  rw [← hw0] at a0
  rw [← hh0] at a1
  rw [← ht0] at a02
  have bw : 1 ≤ w0 ∧ w0 ≤ 20 := by omega
  have bh : 1 ≤ h0 ∧ h0 ≤ 20 := by omega
  have bt : 1 ≤ t0 ∧ t0 ≤ 2 := by omega
  have l3 := Nat.mod_lt v3 (show 2 > 0 by decide)
  clear hw0 hh0 ht0 l0 l1 l02
  generalize v0 % 20 = x0 at m0 a0
  generalize v1 % 20 = x1 at m1 a1
  generalize v0 % 2 = x2 at m02 a02
  generalize v2 % 8 = x3 at m2
  generalize v3 % 2 = x4 at m3 l3
  rw [step_st (ρ' := [a, some (.d (.list (vs.map nD))), b, some (.d (.int (w0 : Int))), some (.d (.int (h0 : Int))), none, none, none, none, none, none, none, none, none, none, none]) (s' := s) (by simp [i0, m0, a0, i1, m1, a1])]
  by_cases c : x3 = 0
  · subst c
    have c4 : x4 = 0 ∨ x4 = 1 := by omega
    rcases c4 with rfl | rfl
    · refine ⟨300, t0, by omega, ?_⟩
      have ix : idxD (.list [.tup [.int 300, .int (t0 : Int)], .tup [.int (t0 : Int), .int 300]]) (.int ((0 : Nat) : Int)) = some (.tup [.int 300, .int (t0 : Int)]) := idx_listE (j := 0) rfl
      rw [step_st (ρ' := [a, some (.d (.list (vs.map nD))), b, some (.d (.int 300)), some (.d (.int (t0 : Int))), none, none, none, none, none, none, none, none, none, none, none]) (s' := s) (by
        have ix : idxD (.list [.tup [.int 300, .int (t0 : Int)], .tup [.int (t0 : Int), .int 300]]) (.int 0) = some (.tup [.int 300, .int (t0 : Int)]) := ix
        have m3 : binD .Mod (nD v3) (.int 2) = some (.int 0) := m3
        simp [i2, m2, i0, m02, a02, i3, m3, ix])]
      rfl
    · refine ⟨t0, 300, by omega, ?_⟩
      have ix : idxD (.list [.tup [.int 300, .int (t0 : Int)], .tup [.int (t0 : Int), .int 300]]) (.int ((1 : Nat) : Int)) = some (.tup [.int (t0 : Int), .int 300]) := idx_listE (j := 1) rfl
      rw [step_st (ρ' := [a, some (.d (.list (vs.map nD))), b, some (.d (.int (t0 : Int))), some (.d (.int 300)), none, none, none, none, none, none, none, none, none, none, none]) (s' := s) (by
        have ix : idxD (.list [.tup [.int 300, .int (t0 : Int)], .tup [.int (t0 : Int), .int 300]]) (.int 1) = some (.tup [.int (t0 : Int), .int 300]) := ix
        have m3 : binD .Mod (nD v3) (.int 2) = some (.int 1) := m3
        simp [i2, m2, i0, m02, a02, i3, m3, ix])]
      rfl
  · have c' : ¬ (x3 : Int) = 0 := by omega
    refine ⟨w0, h0, by omega, ?_⟩
    rw [step_no (s' := s) (by simp [i2, m2, c, c'])]
end K78

namespace K78
open Cr PySem
def L0 : S := (.asg (.name 1) (.call false "_law_numbers" [(.var 0), (.con (.int 0)), (.con (.int 60))]))
def L1 : S := (.asg (.name 2) (.call false "_law_numbers" [(.var 0), (.con (.int 1)), (.con (.int 60))]))
def L2 : S := (.asg (.tup [(.name 3), (.name 4)]) (.tup [(.bin false .Add (.con (.int 1)) (.bin false .Mod (.idx (.var 1) (.con (.int 0))) (.con (.int 20)))), (.bin false .Add (.con (.int 1)) (.bin false .Mod (.idx (.var 1) (.con (.int 1))) (.con (.int 20))))]))
def L3 : S := (.ite (.cmp .Eq (.bin false .Mod (.idx (.var 1) (.con (.int 2))) (.con (.int 8))) (.con (.int 0))) [(.asg (.tup [(.name 3), (.name 4)]) (.idx (.list false [(.tup [(.con (.int 300)), (.bin false .Add (.con (.int 1)) (.bin false .Mod (.idx (.var 1) (.con (.int 0))) (.con (.int 2))))]), (.tup [(.bin false .Add (.con (.int 1)) (.bin false .Mod (.idx (.var 1) (.con (.int 0))) (.con (.int 2)))), (.con (.int 300))])]) (.bin false .Mod (.idx (.var 1) (.con (.int 3))) (.con (.int 2)))))] [])
def L4 : S := (.asg (.name 5) (.lc false (.lc false (.bin false .Mod (.bin false .Add (.idx (.var 2) (.bin false .Mod (.bin false .Add (.var 15) (.bin false .Mult (.con (.int 7)) (.var 7))) (.con (.int 60)))) (.bin false .Mult (.var 15) (.idx (.var 2) (.bin false .Mod (.var 7) (.con (.int 60)))))) (.con (.int 17))) (.name 15) (.range [(.var 3)]) [] [15]) (.name 7) (.range [(.var 4)]) [] [7]))
def L5 : S := (.asg (.name 6) (.list true []))
def L6 : S := (.for (.name 7) (.range [(.var 4)]) [(.asg (.name 8) (.lc false (.bi false .int [(.cmp .Eq (.bin false .Mod (.bin false .Add (.idx (.var 2) (.bin false .Mod (.bin false .Add (.bin false .FloorDiv (.var 15) (.bin false .Add (.con (.int 1)) (.bin false .Mod (.idx (.var 1) (.con (.int 4))) (.con (.int 6))))) (.bin false .Mult (.con (.int 11)) (.var 7))) (.con (.int 60)))) (.var 7)) (.con (.int 3))) (.con (.int 0)))]) (.name 15) (.range [(.var 3)]) [] [15])), (.ite (.and (.cmp .NotEq (.var 6) (.list false [])) (.cmp .Eq (.bin false .Mod (.bin false .FloorDiv (.idx (.var 2) (.bin false .Mod (.var 7) (.con (.int 60)))) (.con (.int 9))) (.con (.int 3))) (.con (.int 0)))) [(.asg (.name 8) (.bi false .list [(.idx (.var 6) (.un .USub (.con (.int 1))))]))] []), (.expr (.app (.var 6) (.var 8)))])
def L7 : S := (.asg (.name 9) (.list false [(.lc false (.bi false .list [(.var 8)]) (.name 8) (.var 5) [] [8]), (.lc false (.bi false .list [(.var 8)]) (.name 8) (.var 6) [] [8])]))
def L8 : S := (.asg (.name 10) (.list false [(.call false "_law_shown" [(.var 5)]), (.call false "_law_packed" [(.var 6)])]))
def L9 : S := (.ite (.or (.not (.call false "_law_same" [(.list false [(.call false "show_picture" [(.idx (.var 9) (.con (.int 0)))]), (.call false "show_packed" [(.idx (.var 9) (.con (.int 1)))])]), (.var 10)])) (.cmp .NotEq (.var 9) (.list false [(.var 5), (.var 6)]))) [(.ret (.con (.bool false)))] [])
def L10 : S := (.asg (.name 11) (.listw [(.call true "read_picture" [(.idx (.var 10) (.con (.int 0)))]), (.call true "read_packed" [(.idx (.var 10) (.con (.int 1)))])]))
def L11 : S := (.ite (.not (.call false "_law_same" [(.var 11), (.list false [(.var 5), (.var 6)])])) [(.ret (.con (.bool false)))] [])
def L12 : S := (.for (.name 12) (.range [(.con (.int 2))]) [(.expr (.app (.idx (.idx (.var 11) (.var 12)) (.con (.int 0))) (.con (.int 1)))), (.expr (.app (.idx (.var 11) (.var 12)) (.list false [])))])
def L13 : S := (.ite (.not (.call false "_law_same" [(.list false [(.call false "read_picture" [(.idx (.var 10) (.con (.int 0)))]), (.call false "read_packed" [(.idx (.var 10) (.con (.int 1)))])]), (.list false [(.var 5), (.var 6)])])) [(.ret (.con (.bool false)))] [])
def L14 : S := (.ite (.cmp .Lt (.var 3) (.con (.int 300))) [(.for (.name 13) (.call false "_law_near" [(.idx (.var 10) (.con (.int 0))), (.slice false true false (.var 1) (.con (.int 5)) .nil), (.list false [(.con (.str [103])), (.con (.str [104])), (.con (.str [71])), (.con (.str [32])), (.con (.str [45])), (.con (.str [48])), (.con (.str [61]))])]) [(.ite (.not (.call false "_law_same" [(.call false "_law_told" [(.con (.int 0)), (.var 13)]), (.call false "_law_read" [(.var 13)])])) [(.ret (.con (.bool false)))] [])]), (.for (.name 13) (.call false "_law_near" [(.idx (.var 10) (.con (.int 1))), (.slice false true false (.var 1) (.con (.int 12)) .nil), (.list false [(.con (.str [48])), (.con (.str [32])), (.con (.str [32, 48, 32])), (.con (.str [49])), (.con (.str [49, 32, 49])), (.con (.str [45])), (.con (.str [61])), (.con (.str [97]))])]) [(.ite (.not (.call false "_law_same" [(.call false "_law_told" [(.con (.int 1)), (.var 13)]), (.call false "_law_read_packed" [(.var 13)])])) [(.ret (.con (.bool false)))] [])])] [])
def L15 : S := (.ite (.cmp .Eq (.bin false .Mod (.idx (.var 1) (.con (.int 2))) (.con (.int 8))) (.con (.int 1))) [(.asg (.name 14) (.bin false .Mult (.list false [(.bin false .Mult (.con (.str [48])) (.bin false .Add (.con (.int 1)) (.bin false .Mod (.idx (.var 1) (.con (.int 19))) (.con (.int 3)))))]) (.con (.int 301)))), (.ite (.or (.not (.call false "_law_same" [(.call false "_law_told" [(.con (.int 0)), (.mt false .join (.con (.str [10])) [(.var 14)])]), (.tup [(.con (.str [114, 97, 105, 115, 101, 100])), (.un .USub (.con (.int 1)))])])) (.not (.call false "_law_same" [(.call false "_law_told" [(.con (.int 0)), (.bin false .Mult (.con (.str [48])) (.con (.int 301)))]), (.tup [(.con (.str [114, 97, 105, 115, 101, 100])), (.un .USub (.con (.int 1)))])]))) [(.ret (.con (.bool false)))] []), (.ite (.or (.not (.call false "_law_same" [(.call false "_law_told" [(.con (.int 1)), (.con (.str [50, 48, 48, 32, 49, 48, 49]))]), (.tup [(.con (.str [114, 97, 105, 115, 101, 100])), (.con (.int 0))])])) (.not (.call false "_law_same" [(.call false "_law_told" [(.con (.int 1)), (.con (.str [55, 10, 55, 32, 51, 48, 48]))]), (.tup [(.con (.str [114, 97, 105, 115, 101, 100])), (.con (.int 1))])]))) [(.ret (.con (.bool false)))] []), (.ite (.or (.not (.call false "_law_same" [(.call false "_law_told" [(.con (.int 1)), (.mt false .join (.con (.str [10])) [(.bin false .Add (.list false [(.con (.str [49]))]) (.bin false .Mult (.list false [(.con (.str [61]))]) (.con (.int 300))))])]), (.tup [(.con (.str [114, 97, 105, 115, 101, 100])), (.un .USub (.con (.int 1)))])])) (.cmp .NotEq (.len (.call false "read_packed" [(.mt false .join (.con (.str [10])) [(.bin false .Add (.list false [(.con (.str [49]))]) (.bin false .Mult (.list false [(.con (.str [61]))]) (.con (.int 299))))])])) (.con (.int 300)))) [(.ret (.con (.bool false)))] [])] [])
def L16 : S := (.ret (.call false "_law_squares" [(.var 0), (.slice false true false (.var 1) (.con (.int 20)) .nil)]))
theorem law_body : b_law.body = [L0, L1, L2, L3, L4, L5, L6, L7, L8, L9, L10, L11, L12, L13, L14, L15, L16] := by kernel_rfl
end K78

namespace K78
open Cr PySem
abbrev En (q : W) (vs us : List Nat) (w h : Nat) (pic : List (List Nat)) (c7 c8 c9 c10 c11 c12 c13 c14 c15 : Option W) : Cr.Env :=
  [some q, some (.d (.list (vs.map nD))), some (.d (.list (us.map nD))), some (.d (.int (w : Int))), some (.d (.int (h : Int))), some (.d (picD pic)), some (.ref 0), c7, c8, c9, c10, c11, c12, c13, c14, c15]
section
variable (n : Nat) (q : W) (vs us : List Nat) (w h : Nat) (pic P : List (List Nat))
theorem st7 (hp : pic.length ≤ 1000) (hP : P.length ≤ 1000) (rest : List S) (c7 c8 c9 c10 c11 c12 c13 c14 c15 : Option W) :
    evSs (run Ga n) Ga.gl (L7 :: rest) (En q vs us w h pic c7 c8 c9 c10 c11 c12 c13 c14 c15) [dl (P.map rowD)] = evSs (run Ga n) Ga.gl rest (En q vs us w h pic c7 c8 (some (.d (.list [picD pic, picD P]))) c10 c11 c12 c13 c14 c15) [.frz (picD P)] := by
  unfold L7
  have lc : ∀ (rows : List (List Nat)) {body : D → M (Option D)}, rows.length ≤ 1000 → (∀ r ∈ rows, body (rowD r) = M.pure (some (rowD r))) → lcLoop body (rows.map rowD) [] = M.pure (rows.map rowD) := fun rows body hl hb => lc_g rowD rowD hb (by omega)
  have wp : walkD (picD pic) = some (pic.map rowD) := rfl
  have fz := freeze_dl (n := 0) (st := [dl (P.map rowD)]) (xs := P.map rowD) rfl
  rw [step_asgM (w := .d (.list [picD pic, picD P])) (s' := [.frz (picD P)]) (by
    simp [wp]
    rw [lc pic hp (fun r hr => by simp [lcBody_eq, list_rowD])]
    simp
    rw [bind_ok fz]
    simp
    rw [lc P hP (fun r hr => by simp [lcBody_eq, list_rowD])]
    simp
    exact ⟨rfl, rfl⟩)]
  rfl
theorem frz_at (P : List (List Nat)) (more : Store) : stands ([.frz (picD P)] ++ more) 6 (.ref 0) = some (picD P) := by
  rw [stands_ref]
  rfl
theorem st8 {wp wP : Nat} (Hp : Pic wp 16 pic) (HP : Pic wP 1 P) (rest : List S) (c7 c8 c9 c10 c11 c12 c13 c14 c15 : Option W) :
    evSs (run Ga (n + 2)) Ga.gl (L8 :: rest) (En q vs us w h pic c7 c8 c9 c10 c11 c12 c13 c14 c15) [.frz (picD P)] = evSs (run Ga (n + 2)) Ga.gl rest (En q vs us w h pic c7 c8 c9 (some (.d (strsD [shownT pic, packT P]))) c11 c12 c13 c14 c15) [.frz (picD P)] := by
  unfold L8
  have p1 : pcall (run Ga (n + 2)) "_law_shown" [.d (picD pic)] = M.pure (.str (shownT pic)) := pcall1 (law_shown_run (n + 1) Hp [])
  obtain ⟨st, e⟩ := law_packed_run n HP
  have p2 : pcall (run Ga (n + 2)) "_law_packed" [.ref 0] [.frz (picD P)] = .ok (.str (packT P)) [.frz (picD P)] := pcall_st (xs := [picD P]) (by
    have := frz_at P []
    rw [List.append_nil] at this
    rw [List.mapM_cons, this]
    rfl) e rfl
  rw [step_asgM (w := .d (strsD [shownT pic, packT P])) (s' := [.frz (picD P)]) (by
    simp [p1]
    rw [bind_ok p2]
    simp
    rfl)]
  rfl
theorem pic_good (rows : List (List Nat)) : (picD rows).good 3 = true := rows_good
theorem cmp_pics (k : Nat) {wp wP : Nat} (Hp : Pic wp 16 pic) (HP : Pic wP 1 P) : D.cmpOk (k + 3) (.list [picD pic, picD P]) = true := cmp_list (by simp) fun x hx => by
  simp only [List.mem_cons, List.not_mem_nil, or_false] at hx
  rcases hx with rfl | rfl
  · exact cmp_pic k (by have := Hp.high; omega) fun r hr => by rw [Hp.wide r hr]; have := Hp.w2; omega
  · exact cmp_pic k (by have := HP.high; omega) fun r hr => by rw [HP.wide r hr]; have := HP.w2; omega
theorem st9 {wp wP : Nat} (Hp : Pic wp 16 pic) (HP : Pic wP 1 P) (rest : List S) (c7 c8 c11 c12 c13 c14 c15 : Option W) :
    evSs (run Ga (n + 2)) Ga.gl (L9 :: rest) (En q vs us w h pic c7 c8 (some (.d (.list [picD pic, picD P]))) (some (.d (strsD [shownT pic, packT P]))) c11 c12 c13 c14 c15) [.frz (picD P)] = evSs (run Ga (n + 2)) Ga.gl rest (En q vs us w h pic c7 c8 (some (.d (.list [picD pic, picD P]))) (some (.d (strsD [shownT pic, packT P]))) c11 c12 c13 c14 c15) [.frz (picD P)] := by
  unfold L9
  have p1 : pcall (run Ga (n + 2)) "show_picture" [.d (picD pic)] = M.pure (.str (shownT pic)) := pcall1 (show_picture_run (n + 1) Hp [])
  obtain ⟨st, e⟩ := show_packed_run n HP
  have p2 : pcall (run Ga (n + 2)) "show_packed" [.d (picD P)] = M.pure (.str (packT P)) := pcall1 e
  have e0 : idxD (.list [picD pic, picD P]) (.int 0) = some (picD pic) := idx_listE (j := 0) rfl
  have e1 : idxD (.list [picD pic, picD P]) (.int 1) = some (picD P) := idx_listE (j := 1) rfl
  have sm := same_p (n + 1) (x := strsD [shownT pic, packT P]) (cmp_strs n (by simp))
  have fz : freeze (.ref 0) [.frz (picD P)] = .ok (picD P) [.frz (picD P)] := rfl
  have eq : cmpD .NotEq (.list [picD pic, picD P]) (.list [picD pic, picD P]) = some false := by
    show (eqD _ _).map _ = _
    rw [eqD_refl (n := 4) (by decide) (by
      show ([picD pic, picD P].all (D.good 3)) = true
      simp [pic_good])]
    rfl
  rw [step_no (s' := [.frz (picD P)]) (by
    have sm : pcall (run Ga (n + 2)) "_law_same" [.d (.list [.str (shownT pic), .str (packT P)]), .d (strsD [shownT pic, packT P])] = M.pure (.bool true) := sm
    simp [e0, e1, p1, p2, sm]
    rw [bind_ok fz]
    simp [eq])]
end
end K78

namespace K78
open Cr PySem
def S1 (pic P : List (List Nat)) : Store := stF [.frz (picD P)] pic
def S2 (pic P : List (List Nat)) : Store := stF (S1 pic P) P
def S3 (pic P : List (List Nat)) : Store := S2 pic P ++ [.list [.ref 1, .ref (S1 pic P).length]]
theorem S1_len (pic P : List (List Nat)) : (S1 pic P).length = 2 + pic.length := by
  unfold S1
  rw [stF_len]
  simp
theorem S2_len (pic P : List (List Nat)) : (S2 pic P).length = 3 + pic.length + P.length := by
  unfold S2
  rw [stF_len, S1_len]
  omega
theorem stF_more (s : Store) (rows : List (List Nat)) : ∃ more, stF s rows = s ++ more := ⟨_, rfl⟩
theorem S3_0 (pic P : List (List Nat)) : (S3 pic P)[0]? = some (.frz (picD P)) := by
  obtain ⟨m, e⟩ := stF_more (S1 pic P) P
  unfold S3 S2
  rw [e]
  unfold S1
  obtain ⟨m2, e2⟩ := stF_more [.frz (picD P)] pic
  rw [e2]
  rfl
theorem S3_told (pic P : List (List Nat)) : (S3 pic P)[(S2 pic P).length]? = some (.list [.ref 1, .ref (S1 pic P).length]) := app_get _ _
theorem S3_pic (pic P : List (List Nat)) : ∃ more, S3 pic P = stF [.frz (picD P)] pic ++ more := by
  obtain ⟨m, e⟩ := stF_more (S1 pic P) P
  refine ⟨m ++ [.list [.ref 1, .ref (S1 pic P).length]], ?_⟩
  unfold S3 S2
  rw [e, List.append_assoc]
  rfl
theorem S3_st (pic P : List (List Nat)) : stands (S3 pic P) 6 (.ref (S2 pic P).length) = some (.list [picD pic, picD P]) := by
  have a1 : stands (S3 pic P) 5 (.ref 1) = some (picD pic) := by
    obtain ⟨m, e⟩ := S3_pic pic P
    rw [e]
    exact stF_stands [.frz (picD P)] pic m 3
  have a2 : stands (S3 pic P) 5 (.ref (S1 pic P).length) = some (picD P) := stF_stands (S1 pic P) P _ 3
  rw [stands_ref, S3_told]
  show (([.ref 1, .ref (S1 pic P).length] : List W).mapM (stands _ 5)).map D.list = _
  rw [List.mapM_cons, a1, List.mapM_cons, a2]
  rfl
section
variable (n : Nat) (q : W) (vs us : List Nat) (w h : Nat) (pic P : List (List Nat))
theorem note0 (a b : T) : idxD (strsD [a, b]) (.int 0) = some (.str a) := idx_listE (j := 0) rfl
theorem note1 (a b : T) : idxD (strsD [a, b]) (.int 1) = some (.str b) := idx_listE (j := 1) rfl
theorem st10 {wp wP : Nat} (Hp : Pic wp 16 pic) (HP : Pic wP 1 P) (tp : (shownT pic).length ≤ 4000) (tP : (packT P).length ≤ 4000) (rest : List S) (c7 c8 c9 c11 c12 c13 c14 c15 : Option W) :
    evSs (run Ga (n + 6)) Ga.gl (L10 :: rest) (En q vs us w h pic c7 c8 c9 (some (.d (strsD [shownT pic, packT P]))) c11 c12 c13 c14 c15) [.frz (picD P)] = evSs (run Ga (n + 6)) Ga.gl rest (En q vs us w h pic c7 c8 c9 (some (.d (strsD [shownT pic, packT P]))) (some (.ref (S2 pic P).length)) c12 c13 c14 c15) (S3 pic P) := by
  have r1 := read_picture_run (n + 3) (shownT pic) (by omega) [.frz (picD P)]
  rw [readP_shown Hp] at r1
  have r1 : run Ga (n + 6) "read_picture" [.d (.str (shownT pic))] [.frz (picD P)] = .ok (.ref 1) (S1 pic P) := r1
  have r2 := read_packed_run (n + 3) (packT P) (by omega) (S1 pic P)
  rw [readK_pack HP] at r2
  have r2 : run Ga (n + 6) "read_packed" [.d (.str (packT P))] (S1 pic P) = .ok (.ref (S1 pic P).length) (S2 pic P) := r2
  have n0 := note0 (shownT pic) (packT P)
  have n1 := note1 (shownT pic) (packT P)
  unfold L10
  rw [step_asgM (w := .ref (S2 pic P).length) (s' := S3 pic P) (listw2 (s1 := S1 pic P) (w1 := .ref 1) (s2 := S2 pic P) (w2 := .ref (S1 pic P).length) (by simp [n0]; exact r1) (by simp [n1]; exact r2))]
  rfl
theorem frz0 {S : Store} (h : S[0]? = some (.frz (picD P))) : freeze (.ref 0) S = .ok (picD P) S := by
  show freezeN 6 (.ref 0) S = _
  rw [freezeN_ref, h]
theorem st11 {wp wP : Nat} (Hp : Pic wp 16 pic) (HP : Pic wP 1 P) (rest : List S) (c7 c8 c9 c10 c12 c13 c14 c15 : Option W) :
    evSs (run Ga (n + 6)) Ga.gl (L11 :: rest) (En q vs us w h pic c7 c8 c9 c10 (some (.ref (S2 pic P).length)) c12 c13 c14 c15) (S3 pic P) = evSs (run Ga (n + 6)) Ga.gl rest (En q vs us w h pic c7 c8 c9 c10 (some (.ref (S2 pic P).length)) c12 c13 c14 c15) (S3 pic P) := by
  have sm : pcall (run Ga (n + 6)) "_law_same" [.ref (S2 pic P).length, .d (.list [picD pic, picD P])] (S3 pic P) = .ok (.bool true) (S3 pic P) :=
    pcall_st (xs := [.list [picD pic, picD P], .list [picD pic, picD P]]) (by
      rw [List.mapM_cons, S3_st]
      rfl) (same_run (n + 5) _ (cmp_pics pic P (n + 2) Hp HP) []) rfl
  have fz := frz0 P (S3_0 pic P)
  unfold L11
  rw [step_no (s' := S3 pic P) (by
    simp
    rw [bind_ok fz]
    rw [bind_ok sm]
    simp)]
theorem st13 {wp wP : Nat} (Hp : Pic wp 16 pic) (HP : Pic wP 1 P) (tp : (shownT pic).length ≤ 4000) (tP : (packT P).length ≤ 4000) (rest : List S) (S : Store) (hS : S[0]? = some (.frz (picD P))) (c7 c8 c9 c11 c12 c13 c14 c15 : Option W) :
    evSs (run Ga (n + 6)) Ga.gl (L13 :: rest) (En q vs us w h pic c7 c8 c9 (some (.d (strsD [shownT pic, packT P]))) c11 c12 c13 c14 c15) S = evSs (run Ga (n + 6)) Ga.gl rest (En q vs us w h pic c7 c8 c9 (some (.d (strsD [shownT pic, packT P]))) c11 c12 c13 c14 c15) S := by
  have r1 := read_picture_run (n + 3) (shownT pic) (by omega) []
  rw [readP_shown Hp] at r1
  have r1 : pcall (run Ga (n + 6)) "read_picture" [.d (.str (shownT pic))] = M.pure (picD pic) := pcall_ref (xs := [.str (shownT pic)]) r1 (stF_stands0 [] pic 4)
  have r2 := read_packed_run (n + 3) (packT P) (by omega) []
  rw [readK_pack HP] at r2
  have r2 : pcall (run Ga (n + 6)) "read_packed" [.d (.str (packT P))] = M.pure (picD P) := pcall_ref (xs := [.str (packT P)]) r2 (stF_stands0 [] P 4)
  have n0 := note0 (shownT pic) (packT P)
  have n1 := note1 (shownT pic) (packT P)
  have sm := same_p (n + 5) (cmp_pics pic P (n + 2) Hp HP)
  have sm : pcall (run Ga (n + 6)) "_law_same" [.d (.list [picD pic, picD P]), .d (.list [picD pic, picD P])] = M.pure (.bool true) := sm
  have fz := frz0 P hS
  unfold L13
  rw [step_no (s' := S) (by
    simp [n0, n1, r1, r2]
    rw [bind_ok fz]
    simp [sm])]
/-- the loop that spoils what was told -/
def kB : List S := match L12 with
  | .for _ _ b => b
  | _ => []
theorem kB_eq : kB = [(.expr (.app (.idx (.idx (.var 11) (.var 12)) (.con (.int 0))) (.con (.int 1)))), (.expr (.app (.idx (.var 11) (.var 12)) (.list false [])))] := rfl
theorem k_step (S : Store) (T A R : Nat) (told F : List W) (rd : List D) (k : Int) (h1 : S[T]? = some (.list told)) (h2 : L2.atI told k = some (.ref A)) (h3 : S[A]? = some (.list F)) (h4 : L2.atI F 0 = some (.ref R)) (h5 : S[R]? = some (dl rd)) (l1 : rd.length < 16777216) (l2 : F.length < 16777216) (t1 : T ≠ R) (t2 : A ≠ R) (c7 c8 c9 c10 c12 c13 c14 c15 : Option W) :
    forBody (.name 12) (evSs (run Ga n) Ga.gl kB) (.int k) (En q vs us w h pic c7 c8 c9 c10 (some (.ref T)) c12 c13 c14 c15) S = .ok .next (En q vs us w h pic c7 c8 c9 c10 (some (.ref T)) (some (.d (.int k))) c13 c14 c15) ((S.set R (dl (rd ++ [.int 1]))).set A (.list (F ++ [.d (.list [])]))) := by
  rw [fb_name, kB_eq]
  simp only [setVar_s, setVar_0]
  have g1 : (S.set R (dl (rd ++ [.int 1])))[T]? = some (.list told) := by rw [List.getElem?_set_ne (Ne.symm t1)]; exact h1
  have g2 : (S.set R (dl (rd ++ [.int 1])))[A]? = some (.list F) := by rw [List.getElem?_set_ne (Ne.symm t2)]; exact h3
  rw [step_st (s' := S.set R (dl (rd ++ [.int 1]))) (ρ' := En q vs us w h pic c7 c8 c9 c10 (some (.ref T)) (some (.d (.int k))) c13 c14 c15) (by simp [h1, ixS_W h2, h3, ixS_W h4, h5, l1])]
  rw [step_st (s' := (S.set R (dl (rd ++ [.int 1]))).set A (.list (F ++ [.d (.list [])]))) (ρ' := En q vs us w h pic c7 c8 c9 c10 (some (.ref T)) (some (.d (.int k))) c13 c14 c15) (by simp [g1, ixS_W h2, g2, l2])]
  simp
theorem st12 {wp wP : Nat} (Hp : Pic wp 16 pic) (HP : Pic wP 1 P) (rest : List S) (c7 c8 c9 c10 c12 c13 c14 c15 : Option W) : ∃ (S : Store) (c12' : Option W), S[0]? = some (.frz (picD P)) ∧
    evSs (run Ga n) Ga.gl (L12 :: rest) (En q vs us w h pic c7 c8 c9 c10 (some (.ref (S2 pic P).length)) c12 c13 c14 c15) (S3 pic P) = evSs (run Ga n) Ga.gl rest (En q vs us w h pic c7 c8 c9 c10 (some (.ref (S2 pic P).length)) c12' c13 c14 c15) S := by
  have lS1 := S1_len pic P
  have lS2 := S2_len pic P
  obtain ⟨m, em⟩ := S3_pic pic P
  obtain ⟨p0, pr, ep⟩ : ∃ p0 pr, pic = p0 :: pr := by
    cases e : pic with
    | nil => exact absurd e Hp.ne
    | cons a b => exact ⟨a, b, rfl⟩
  obtain ⟨P0, Pr, eP⟩ : ∃ P0 Pr, P = P0 :: Pr := by
    cases e : P with
    | nil => exact absurd e HP.ne
    | cons a b => exact ⟨a, b, rfl⟩
  have t := S3_told pic P
  have a1 : (S3 pic P)[1]? = some (.list (refsF 1 pic.length)) := by rw [em]; exact stF_at [.frz (picD P)] pic m
  have r1 : (S3 pic P)[2]? = some (dl (p0.map nD)) := by
    rw [em]
    exact stF_row [.frz (picD P)] pic m (i := 0) (by rw [ep]; rfl)
  have a2 : (S3 pic P)[(S1 pic P).length]? = some (.list (refsF (S1 pic P).length P.length)) := stF_at (S1 pic P) P _
  have r2 : (S3 pic P)[(S1 pic P).length + 1]? = some (dl (P0.map nD)) := stF_row (S1 pic P) P _ (i := 0) (by rw [eP]; rfl)
  have f1 : L2.atI (refsF 1 pic.length) 0 = some (.ref 2) := L2.atI_nat (j := 0) (refsF_at (L := 1) (by rw [ep]; simp))
  have f2 : L2.atI (refsF (S1 pic P).length P.length) 0 = some (.ref ((S1 pic P).length + 1)) := L2.atI_nat (j := 0) (refsF_at (by rw [eP]; simp))
  have lp : p0.length ≤ 300 := by have := Hp.wide p0 (by rw [ep]; simp); have := Hp.w2; omega
  have lP : P0.length ≤ 300 := by have := HP.wide P0 (by rw [eP]; simp); have := HP.w2; omega
  have hp := Hp.high
  have hP := HP.high
  have pl : pic.length = pr.length + 1 := by rw [ep]; rfl
  have Pl : P.length = Pr.length + 1 := by rw [eP]; rfl
  have ne1 : (S2 pic P).length ≠ 2 := by omega
  have ne2 : (1 : Nat) ≠ 2 := by omega
  have ne3 : (S2 pic P).length ≠ (S1 pic P).length + 1 := by omega
  have ne4 : (S1 pic P).length ≠ (S1 pic P).length + 1 := by omega
  have e1 := k_step n q vs us w h pic (S3 pic P) (S2 pic P).length 1 2 [.ref 1, .ref (S1 pic P).length] (refsF 1 pic.length) (p0.map nD) 0 t rfl a1 f1 r1 (by simp; omega) (by rw [refsF_len]; omega) ne1 ne2 c7 c8 c9 c10 c12 c13 c14 c15
  obtain ⟨S4, hS4⟩ : ∃ S4, S4 = ((S3 pic P).set 2 (dl (p0.map nD ++ [.int 1]))).set 1 (.list (refsF 1 pic.length ++ [.d (.list [])])) := ⟨_, rfl⟩
  have keep : ∀ i, i ≠ 1 → i ≠ 2 → S4[i]? = (S3 pic P)[i]? := fun i h1 h2 => by
    rw [hS4, List.getElem?_set_ne (Ne.symm h1), List.getElem?_set_ne (Ne.symm h2)]
  rw [← hS4] at e1
  have e2 := k_step n q vs us w h pic S4 (S2 pic P).length (S1 pic P).length ((S1 pic P).length + 1) [.ref 1, .ref (S1 pic P).length] (refsF (S1 pic P).length P.length) (P0.map nD) 1 (by rw [keep _ (by omega) (by omega)]; exact t) rfl (by rw [keep _ (by omega) (by omega)]; exact a2) f2 (by rw [keep _ (by omega) (by omega)]; exact r2) (by simp; omega) (by rw [refsF_len]; omega) ne3 ne4 c7 c8 c9 c10 (some (.d (.int 0))) c13 c14 c15
  refine ⟨(S4.set ((S1 pic P).length + 1) (dl (P0.map nD ++ [.int 1]))).set (S1 pic P).length (.list (refsF (S1 pic P).length P.length ++ [.d (.list [])])), some (.d (.int 1)), ?_, ?_⟩
  · rw [List.getElem?_set_ne (by omega), List.getElem?_set_ne (by omega), keep 0 (by omega) (by omega)]
    exact S3_0 pic P
  · have L : L12 = .for (.name 12) (.range [(.con (.int 2))]) kB := rfl
    have rg : rangeD [.int 2] = some [.int 0, .int 1] := by
      have := range1' (j := 2) (by decide)
      exact this
    rw [L, step_for (xs := [.int 0, .int 1]) (by simp [rg]) (by
      rw [forLoop, e1]
      show forLoop _ _ _ _ = _
      rw [forLoop, e2]
      show forLoop _ _ _ _ = _
      rw [forLoop])]
end
end K78

namespace K78
open Cr PySem
theorem cmp_rdP (k : Nat) {t : T} (h : t.length ≤ 15000) : D.cmpOk (k + 2) (rdV (readP t)) = true := by
  obtain ⟨l1, l2⟩ := lines_len (t := t) (by omega)
  unfold readP
  split
  · exact cmp_bad (k + 1) _
  · split
    · refine cmp_pic k ?_ fun r hr => ?_
      · unfold rowsOf
        rw [List.length_map]
        omega
      · obtain ⟨p, hp, rfl⟩ := List.mem_map.mp hr
        rw [rowOf_len]
        have := l2 p hp
        omega
    · exact cmp_bad (k + 1) _
theorem cmp_rdK (k : Nat) {t : T} (h : t.length ≤ 15000) : D.cmpOk (k + 2) (rdV (readK t)) = true := by
  obtain ⟨l1, l2⟩ := lines_len (t := t) (by omega)
  unfold readK
  cases hb : pkGo [] (lines t) with
  | bad j => exact cmp_bad (k + 1) _
  | rows R =>
    obtain ⟨ro, rl⟩ := pkGo_rows Rows01.nil hb
    dsimp only
    split
    · exact cmp_pic k (by simp at rl; omega) fun r hr => by have := (ro.one r hr).2.1; omega
    · exact cmp_bad (k + 1) _
section
variable (n : Nat) (q : W) (vs us : List Nat) (w h : Nat) (pic P : List (List Nat))
def nb0 : List S := [(.ite (.not (.call false "_law_same" [(.call false "_law_told" [(.con (.int 0)), (.var 13)]), (.call false "_law_read" [(.var 13)])])) [(.ret (.con (.bool false)))] [])]
def nb1 : List S := [(.ite (.not (.call false "_law_same" [(.call false "_law_told" [(.con (.int 1)), (.var 13)]), (.call false "_law_read_packed" [(.var 13)])])) [(.ret (.con (.bool false)))] [])]
theorem nl0 (c7 c8 c9 c10 c11 c12 c14 c15 : Option W) (S : Store) : ∀ (cs : List T) (c13 : Option W), (∀ c ∈ cs, Fine c) → ∃ c13', forLoop (forBody (.name 13) (evSs (run Ga (n + 6)) Ga.gl nb0)) (cs.map .str) (En q vs us w h pic c7 c8 c9 c10 c11 c12 c13 c14 c15) S = .ok .next (En q vs us w h pic c7 c8 c9 c10 c11 c12 c13' c14 c15) S
  | [], c13, _ => ⟨c13, by simp [forLoop]⟩
  | c :: cs, c13, hc => by
    obtain ⟨h1, h2⟩ := hc c (by simp)
    obtain ⟨z, ih⟩ := nl0 c7 c8 c9 c10 c11 c12 c14 c15 S cs (some (.d (.str c))) (fun x hx => hc x (by simp [hx]))
    have t0 : pcall (run Ga (n + 6)) "_law_told" [.d (.int 0), .d (.str c)] = M.pure (rdV (readP c)) := told0_run (n + 2) c (by omega)
    have t1 : pcall (run Ga (n + 6)) "_law_read" [.d (.str c)] = M.pure (rdV (readP c)) := law_read_run (n + 5) c (by omega)
    have sm : pcall (run Ga (n + 6)) "_law_same" [.d (rdV (readP c)), .d (rdV (readP c))] = M.pure (.bool true) := same_p (n + 5) (cmp_rdP (n + 3) h1)
    refine ⟨z, ?_⟩
    rw [List.map_cons, forLoop, fb_name]
    simp only [setVar_s, setVar_0]
    generalize rdV (readP c) = R at t0 t1 sm
    rw [nb0, step_no (s' := S) (by simp [t0, t1, sm]), evSs_nil, ← nb0]
    exact ih
theorem nl1 (c7 c8 c9 c10 c11 c12 c14 c15 : Option W) (S : Store) : ∀ (cs : List T) (c13 : Option W), (∀ c ∈ cs, Fine c) → ∃ c13', forLoop (forBody (.name 13) (evSs (run Ga (n + 6)) Ga.gl nb1)) (cs.map .str) (En q vs us w h pic c7 c8 c9 c10 c11 c12 c13 c14 c15) S = .ok .next (En q vs us w h pic c7 c8 c9 c10 c11 c12 c13' c14 c15) S
  | [], c13, _ => ⟨c13, by simp [forLoop]⟩
  | c :: cs, c13, hc => by
    obtain ⟨h1, h2⟩ := hc c (by simp)
    obtain ⟨z, ih⟩ := nl1 c7 c8 c9 c10 c11 c12 c14 c15 S cs (some (.d (.str c))) (fun x hx => hc x (by simp [hx]))
    have t0 : pcall (run Ga (n + 6)) "_law_told" [.d (.int 1), .d (.str c)] = M.pure (rdV (readK c)) := told1_run (n + 2) c (by omega)
    have t1 : pcall (run Ga (n + 6)) "_law_read_packed" [.d (.str c)] = M.pure (rdV (readK c)) := law_read_packed_run (n + 4) c h1 h2
    have sm : pcall (run Ga (n + 6)) "_law_same" [.d (rdV (readK c)), .d (rdV (readK c))] = M.pure (.bool true) := same_p (n + 5) (cmp_rdK (n + 3) h1)
    refine ⟨z, ?_⟩
    rw [List.map_cons, forLoop, fb_name]
    simp only [setVar_s, setVar_0]
    generalize rdV (readK c) = R at t0 t1 sm
    rw [nb1, step_no (s' := S) (by simp [t0, t1, sm]), evSs_nil, ← nb1]
    exact ih
theorem drawn_drop {c : Nat} {vs : List Nat} (h : Drawn c vs) (k : Nat) : Drawn (c - k) (vs.drop k) := ⟨by rw [List.length_drop, h.1], fun v hv => h.2 v (List.mem_of_mem_drop hv)⟩
theorem sl_vs (vs : List Nat) (k : Nat) : sliceD (.list (vs.map nD)) (some (k : Int)) none = some (.list ((vs.drop k).map nD)) := by
  rw [slice_listE, cut_drop, List.map_drop]
def sg0 : List T := [[103], [104], [71], [32], [45], [48], [61]]
def sg1 : List T := [[48], [32], [32, 48, 32], [49], [49, 32, 49], [45], [61], [97]]
theorem sg_ok : ∀ x ∈ sg0 ++ sg1, x.length ≤ 10 ∧ Asc x := by
  have : ∀ x ∈ sg0 ++ sg1, x.length ≤ 10 ∧ x.all (· < 1114112) = true := by decide
  exact fun x hx => ⟨(this x hx).1, fun c hc => by simpa using List.all_eq_true.mp (this x hx).2 c hc⟩
theorem L14_eq : L14 = .ite (.cmp .Lt (.var 3) (.con (.int 300))) [.for (.name 13) (.call false "_law_near" [(.idx (.var 10) (.con (.int 0))), (.slice false true false (.var 1) (.con (.int 5)) .nil), (.list false [(.con (.str [103])), (.con (.str [104])), (.con (.str [71])), (.con (.str [32])), (.con (.str [45])), (.con (.str [48])), (.con (.str [61]))])]) nb0,
    .for (.name 13) (.call false "_law_near" [(.idx (.var 10) (.con (.int 1))), (.slice false true false (.var 1) (.con (.int 12)) .nil), (.list false [(.con (.str [48])), (.con (.str [32])), (.con (.str [32, 48, 32])), (.con (.str [49])), (.con (.str [49, 32, 49])), (.con (.str [45])), (.con (.str [61])), (.con (.str [97]))])]) nb1] [] := rfl
theorem st14 (hv : Drawn 60 vs) (tp : (shownT pic).length ≤ 4000 ∧ Asc (shownT pic)) (tP : (packT P).length ≤ 4000 ∧ Asc (packT P)) (rest : List S) (S : Store) (c7 c8 c9 c11 c12 c13 c14 c15 : Option W) : ∃ c13',
    evSs (run Ga (n + 6)) Ga.gl (L14 :: rest) (En q vs us w h pic c7 c8 c9 (some (.d (strsD [shownT pic, packT P]))) c11 c12 c13 c14 c15) S = evSs (run Ga (n + 6)) Ga.gl rest (En q vs us w h pic c7 c8 c9 (some (.d (strsD [shownT pic, packT P]))) c11 c12 c13' c14 c15) S := by
  have n0 := note0 (shownT pic) (packT P)
  have n1 := note1 (shownT pic) (packT P)
  rw [L14_eq]
  by_cases c : w < 300
  · have c' : (w : Int) < 300 := by omega
    obtain ⟨cs0, f0, e0⟩ := law_near_run (n + 5) (shownT pic) tp.1 tp.2 (drawn_drop hv 5) (by decide) sg0 (fun x hx => sg_ok x (by simp [hx])) (by decide)
    obtain ⟨cs1, f1, e1⟩ := law_near_run (n + 5) (packT P) tP.1 tP.2 (drawn_drop hv 12) (by decide) sg1 (fun x hx => sg_ok x (by simp [hx])) (by decide)
    have s5 : sliceD (.list (vs.map nD)) (some 5) none = some (.list ((vs.drop 5).map nD)) := sl_vs vs 5
    have s12 : sliceD (.list (vs.map nD)) (some 12) none = some (.list ((vs.drop 12).map nD)) := sl_vs vs 12
    obtain ⟨z0, l0⟩ := nl0 n q vs us w h pic c7 c8 c9 (some (.d (strsD [shownT pic, packT P]))) c11 c12 c14 c15 S cs0 c13 f0
    obtain ⟨z1, l1⟩ := nl1 n q vs us w h pic c7 c8 c9 (some (.d (strsD [shownT pic, packT P]))) c11 c12 c14 c15 S cs1 z0 f1
    refine ⟨z1, ?_⟩
    generalize vs.drop 5 = v5 at s5 e0
    generalize vs.drop 12 = v12 at s12 e1
    simp only [sg0, List.map_cons, List.map_nil] at e0
    simp only [sg1, List.map_cons, List.map_nil] at e1
    have inner : evSs (run Ga (n + 6)) Ga.gl [.for (.name 13) (.call false "_law_near" [(.idx (.var 10) (.con (.int 0))), (.slice false true false (.var 1) (.con (.int 5)) .nil), (.list false [(.con (.str [103])), (.con (.str [104])), (.con (.str [71])), (.con (.str [32])), (.con (.str [45])), (.con (.str [48])), (.con (.str [61]))])]) nb0,
        .for (.name 13) (.call false "_law_near" [(.idx (.var 10) (.con (.int 1))), (.slice false true false (.var 1) (.con (.int 12)) .nil), (.list false [(.con (.str [48])), (.con (.str [32])), (.con (.str [32, 48, 32])), (.con (.str [49])), (.con (.str [49, 32, 49])), (.con (.str [45])), (.con (.str [61])), (.con (.str [97]))])]) nb1] (En q vs us w h pic c7 c8 c9 (some (.d (strsD [shownT pic, packT P]))) c11 c12 c13 c14 c15) S = .ok .next (En q vs us w h pic c7 c8 c9 (some (.d (strsD [shownT pic, packT P]))) c11 c12 z1 c14 c15) S := by
      rw [step_for (by simp [n0, s5, e0]) l0, step_for (by simp [n1, s12, e1]) l1, evSs_nil]
    refine step_st (ρ' := En q vs us w h pic c7 c8 c9 (some (.d (strsD [shownT pic, packT P]))) c11 c12 z1 c14 c15) (s' := S) ?_
    rw [evS_ite]
    simp [c', -evSs_cons]
    exact inner
  · have c' : ¬ (w : Int) < 300 := by omega
    exact ⟨c13, step_no (by simp [c, c'])⟩
end
end K78

namespace K78
open Cr PySem
def ss (ps : List T) : D := .list (ps.map .str)
def zL (m : Nat) : List T := List.replicate 301 (List.replicate m 48)
def wT : T := List.replicate 301 48
def qL (m : Nat) : List T := List.replicate m [61]
def oL (m : Nat) : List T := [49] :: qL m
def jT (ps : List T) : T := joinC [10] ps
theorem jT_len {ps : List T} (h : ((jT ps).length ≤ 100000)) : (jT ps).length ≤ 100000 := h
theorem big_z (n : Nat) : ∀ m : Nat, 1 ≤ m → m ≤ 3 → binD .Mult (.str [48]) (.int (m : Int)) = some (.str (List.replicate m 48)) ∧ binD .Mult (.list [.str (List.replicate m 48)]) (.int 301) = some (ss (zL m)) ∧ mtD .join (.str [10]) [ss (zL m)] = some (.str (jT (zL m))) ∧ pcall (run Ga (n + 6)) "_law_told" [.d (.int 0), .d (.str (jT (zL m)))] = M.pure (.tup [.str RAISED, .int (-1)]) := by
  intro m h1 h2
  have c : m = 1 ∨ m = 2 ∨ m = 3 := by omega
  refine ⟨by rcases c with rfl | rfl | rfl <;> rfl, by rcases c with rfl | rfl | rfl <;> kernel_rfl, by rcases c with rfl | rfl | rfl <;> kernel_rfl, ?_⟩
  have l : (jT (zL m)).length ≤ 100000 := by rcases c with rfl | rfl | rfl <;> decide +kernel
  have r : readP (jT (zL m)) = .bad (-1) := by rcases c with rfl | rfl | rfl <;> kernel_rfl
  have t := told0_run (n + 2) (jT (zL m)) l
  rw [r] at t
  exact t
theorem big_w (n : Nat) : binD .Mult (.str [48]) (.int 301) = some (.str wT) ∧ pcall (run Ga (n + 6)) "_law_told" [.d (.int 0), .d (.str wT)] = M.pure (.tup [.str RAISED, .int (-1)]) := by
  refine ⟨by kernel_rfl, ?_⟩
  have l : wT.length ≤ 100000 := by decide +kernel
  have r : readP wT = .bad (-1) := by kernel_rfl
  have t := told0_run (n + 2) wT l
  rw [r] at t
  exact t
theorem far0 (n : Nat) : pcall (run Ga (n + 6)) "_law_told" [.d (.int 1), .d (.str [50, 48, 48, 32, 49, 48, 49])] = M.pure (.tup [.str RAISED, .int 0]) := by
  have r : readK [50, 48, 48, 32, 49, 48, 49] = .bad 0 := by kernel_rfl
  have t := told1_run (n + 2) [50, 48, 48, 32, 49, 48, 49] (by decide)
  rw [r] at t
  exact t
theorem far1 (n : Nat) : pcall (run Ga (n + 6)) "_law_told" [.d (.int 1), .d (.str [55, 10, 55, 32, 51, 48, 48])] = M.pure (.tup [.str RAISED, .int 1]) := by
  have r : readK [55, 10, 55, 32, 51, 48, 48] = .bad 1 := by kernel_rfl
  have t := told1_run (n + 2) [55, 10, 55, 32, 51, 48, 48] (by decide)
  rw [r] at t
  exact t
theorem o300 (n : Nat) : binD .Mult (.list [.str [61]]) (.int 300) = some (ss (qL 300)) ∧ binD .Add (.list [.str [49]]) (ss (qL 300)) = some (ss (oL 300)) ∧ mtD .join (.str [10]) [ss (oL 300)] = some (.str (jT (oL 300))) ∧ pcall (run Ga (n + 6)) "_law_told" [.d (.int 1), .d (.str (jT (oL 300)))] = M.pure (.tup [.str RAISED, .int (-1)]) := by
  refine ⟨by kernel_rfl, by kernel_rfl, by kernel_rfl, ?_⟩
  have l : (jT (oL 300)).length ≤ 100000 := by decide +kernel
  have r : readK (jT (oL 300)) = .bad (-1) := by kernel_rfl
  have t := told1_run (n + 2) (jT (oL 300)) l
  rw [r] at t
  exact t
theorem rk_p (n : Nat) {t : T} {R : List (List Nat)} (l : t.length ≤ 100000) (r : readK t = .rows R) : pcall (run Ga (n + 6)) "read_packed" [.d (.str t)] = M.pure (picD R) := by
  have q := read_packed_run (n + 3) t l []
  rw [r] at q
  exact pcall_ref (xs := [.str t]) q (stF_stands0 [] R 4)
def zz : List (List Nat) := List.replicate 300 [0]
theorem zz_r : readK (jT (oL 299)) = .rows zz := by kernel_rfl
theorem zz_l : (jT (oL 299)).length ≤ 100000 := by decide +kernel
theorem o299 (n : Nat) : binD .Mult (.list [.str [61]]) (.int 299) = some (ss (qL 299)) ∧ binD .Add (.list [.str [49]]) (ss (qL 299)) = some (ss (oL 299)) ∧ mtD .join (.str [10]) [ss (oL 299)] = some (.str (jT (oL 299))) ∧ pcall (run Ga (n + 6)) "read_packed" [.d (.str (jT (oL 299)))] = M.pure (picD zz) :=
  ⟨by kernel_rfl, by kernel_rfl, by kernel_rfl, rk_p n zz_l zz_r⟩
end K78

namespace K78
open Cr PySem
section
variable (n : Nat) (q : W) (vs us : List Nat) (w h : Nat) (pic P : List (List Nat))
def MI : D := .tup [.str RAISED, .int (-1)]
def M0 : D := .tup [.str RAISED, .int 0]
def M1 : D := .tup [.str RAISED, .int 1]
theorem same_MI : pcall (run Ga (n + 6)) "_law_same" [.d (.tup [.str RAISED, .int (-1)]), .d (.tup [.str [114, 97, 105, 115, 101, 100], .int (-1)])] = M.pure (.bool true) := same_p (n + 5) (cmp_bad (n + 4) (-1))
theorem same_M0 : pcall (run Ga (n + 6)) "_law_same" [.d (.tup [.str RAISED, .int 0]), .d (.tup [.str [114, 97, 105, 115, 101, 100], .int 0])] = M.pure (.bool true) := same_p (n + 5) (cmp_bad (n + 4) 0)
theorem same_M1 : pcall (run Ga (n + 6)) "_law_same" [.d (.tup [.str RAISED, .int 1]), .d (.tup [.str [114, 97, 105, 115, 101, 100], .int 1])] = M.pure (.bool true) := same_p (n + 5) (cmp_bad (n + 4) 1)
def LA : S := (.asg (.name 14) (.bin false .Mult (.list false [(.bin false .Mult (.con (.str [48])) (.bin false .Add (.con (.int 1)) (.bin false .Mod (.idx (.var 1) (.con (.int 19))) (.con (.int 3)))))]) (.con (.int 301))))
def LB : S := (.ite (.or (.not (.call false "_law_same" [(.call false "_law_told" [(.con (.int 0)), (.mt false .join (.con (.str [10])) [(.var 14)])]), (.tup [(.con (.str [114, 97, 105, 115, 101, 100])), (.un .USub (.con (.int 1)))])])) (.not (.call false "_law_same" [(.call false "_law_told" [(.con (.int 0)), (.bin false .Mult (.con (.str [48])) (.con (.int 301)))]), (.tup [(.con (.str [114, 97, 105, 115, 101, 100])), (.un .USub (.con (.int 1)))])]))) [(.ret (.con (.bool false)))] [])
def LC : S := (.ite (.or (.not (.call false "_law_same" [(.call false "_law_told" [(.con (.int 1)), (.con (.str [50, 48, 48, 32, 49, 48, 49]))]), (.tup [(.con (.str [114, 97, 105, 115, 101, 100])), (.con (.int 0))])])) (.not (.call false "_law_same" [(.call false "_law_told" [(.con (.int 1)), (.con (.str [55, 10, 55, 32, 51, 48, 48]))]), (.tup [(.con (.str [114, 97, 105, 115, 101, 100])), (.con (.int 1))])]))) [(.ret (.con (.bool false)))] [])
def LD : S := (.ite (.or (.not (.call false "_law_same" [(.call false "_law_told" [(.con (.int 1)), (.mt false .join (.con (.str [10])) [(.bin false .Add (.list false [(.con (.str [49]))]) (.bin false .Mult (.list false [(.con (.str [61]))]) (.con (.int 300))))])]), (.tup [(.con (.str [114, 97, 105, 115, 101, 100])), (.un .USub (.con (.int 1)))])])) (.cmp .NotEq (.len (.call false "read_packed" [(.mt false .join (.con (.str [10])) [(.bin false .Add (.list false [(.con (.str [49]))]) (.bin false .Mult (.list false [(.con (.str [61]))]) (.con (.int 299))))])])) (.con (.int 300)))) [(.ret (.con (.bool false)))] [])
theorem L15_eq : L15 = .ite (.cmp .Eq (.bin false .Mod (.idx (.var 1) (.con (.int 2))) (.con (.int 8))) (.con (.int 1))) [LA, LB, LC, LD] [] := rfl
theorem stA (hv : Drawn 60 vs) (rest : List S) (S : Store) (c7 c8 c9 c10 c11 c12 c13 c14 c15 : Option W) : ∃ m : Nat, 1 ≤ m ∧ m ≤ 3 ∧
    evSs (run Ga (n + 6)) Ga.gl (LA :: rest) (En q vs us w h pic c7 c8 c9 c10 c11 c12 c13 c14 c15) S = evSs (run Ga (n + 6)) Ga.gl rest (En q vs us w h pic c7 c8 c9 c10 c11 c12 c13 (some (.d (ss (zL m)))) c15) S := by
  have i19 := drawn_ix hv (k := 19) (by decide)
  generalize vs.getD 19 0 = v at i19
  have i19 : idxD (.list (vs.map nD)) (.int 19) = some (nD v) := i19
  have m3 : binD .Mod (nD v) (.int 3) = some (.int ((v % 3 : Nat) : Int)) := mdN (b := 3) (by decide)
  have a1 : binD .Add (.int 1) (.int ((v % 3 : Nat) : Int)) = some (.int ((1 + v % 3 : Nat) : Int)) := adN (a := 1)
  have lt := Nat.mod_lt v (show 3 > 0 by decide)
  obtain ⟨m, hm⟩ : ∃ m, m = 1 + v % 3 := ⟨_, rfl⟩
  rw [← hm] at a1
  have b1 : 1 ≤ m := by omega
  have b3 : m ≤ 3 := by omega
  obtain ⟨e1, e2, _, _⟩ := big_z n m b1 b3
  refine ⟨m, b1, b3, ?_⟩
  clear hm lt
  generalize v % 3 = x at m3 a1
  generalize zL m = z at e2
  generalize ss z = z at e2
  generalize List.replicate m 48 = y at e1 e2
  unfold LA
  rw [step_asg (w := .d z) (by simp [i19, m3, a1, e1, e2])]
  rfl
theorem stB {m : Nat} (b1 : 1 ≤ m) (b3 : m ≤ 3) (rest : List S) (S : Store) (c7 c8 c9 c10 c11 c12 c13 c15 : Option W) :
    evSs (run Ga (n + 6)) Ga.gl (LB :: rest) (En q vs us w h pic c7 c8 c9 c10 c11 c12 c13 (some (.d (ss (zL m)))) c15) S = evSs (run Ga (n + 6)) Ga.gl rest (En q vs us w h pic c7 c8 c9 c10 c11 c12 c13 (some (.d (ss (zL m)))) c15) S := by
  obtain ⟨_, _, e3, e4⟩ := big_z n m b1 b3
  obtain ⟨f1, f2⟩ := big_w n
  have sm := same_MI n
  have ng : unD .USub (.int 1) = some (.int (-1)) := rfl
  generalize ss (zL m) = z at e3
  generalize jT (zL m) = y at e3 e4
  generalize wT = u at f1 f2
  unfold LB
  rw [step_no (s' := S) (by simp [e3, e4, f1, f2, ng, sm])]
theorem stC (rest : List S) (S : Store) (c7 c8 c9 c10 c11 c12 c13 c14 c15 : Option W) :
    evSs (run Ga (n + 6)) Ga.gl (LC :: rest) (En q vs us w h pic c7 c8 c9 c10 c11 c12 c13 c14 c15) S = evSs (run Ga (n + 6)) Ga.gl rest (En q vs us w h pic c7 c8 c9 c10 c11 c12 c13 c14 c15) S := by
  unfold LC
  rw [step_no (s' := S) (by simp [far0 n, far1 n, same_M0 n, same_M1 n])]
theorem stD (rest : List S) (S : Store) (c7 c8 c9 c10 c11 c12 c13 c14 c15 : Option W) :
    evSs (run Ga (n + 6)) Ga.gl (LD :: rest) (En q vs us w h pic c7 c8 c9 c10 c11 c12 c13 c14 c15) S = evSs (run Ga (n + 6)) Ga.gl rest (En q vs us w h pic c7 c8 c9 c10 c11 c12 c13 c14 c15) S := by
  obtain ⟨e1, e2, e3, e4⟩ := o300 n
  obtain ⟨f1, f2, f3, f4⟩ := o299 n
  have sm := same_MI n
  have ng : unD .USub (.int 1) = some (.int (-1)) := rfl
  generalize ss (qL 300) = a1 at e1 e2
  generalize ss (oL 300) = a2 at e2 e3
  generalize jT (oL 300) = a3 at e3 e4
  generalize ss (qL 299) = d1 at f1 f2
  generalize ss (oL 299) = d2 at f2 f3
  generalize jT (oL 299) = d3 at f3 f4
  have lz : zz.length = 300 := by simp [zz]
  generalize zz = z at f4 lz
  unfold LD
  rw [step_no (s' := S) (by simp [e1, e2, e3, e4, f1, f2, f3, f4, ng, sm, lz, picD])]
theorem st15 (hv : Drawn 60 vs) (rest : List S) (S : Store) (c7 c8 c9 c10 c11 c12 c13 c14 c15 : Option W) : ∃ c14',
    evSs (run Ga (n + 6)) Ga.gl (L15 :: rest) (En q vs us w h pic c7 c8 c9 c10 c11 c12 c13 c14 c15) S = evSs (run Ga (n + 6)) Ga.gl rest (En q vs us w h pic c7 c8 c9 c10 c11 c12 c13 c14' c15) S := by
  have i2 := drawn_ix hv (k := 2) (by decide)
  generalize vs.getD 2 0 = v at i2
  have i2 : idxD (.list (vs.map nD)) (.int 2) = some (nD v) := i2
  have m8 : binD .Mod (nD v) (.int 8) = some (.int ((v % 8 : Nat) : Int)) := mdN (b := 8) (by decide)
  generalize v % 8 = x at m8
  rw [L15_eq]
  by_cases c : x = 1
  · subst c
    obtain ⟨m, b1, b3, eA⟩ := stA n q vs us w h pic hv [LB, LC, LD] S c7 c8 c9 c10 c11 c12 c13 c14 c15
    have inner : evSs (run Ga (n + 6)) Ga.gl [LA, LB, LC, LD] (En q vs us w h pic c7 c8 c9 c10 c11 c12 c13 c14 c15) S = .ok .next (En q vs us w h pic c7 c8 c9 c10 c11 c12 c13 (some (.d (ss (zL m)))) c15) S := by
      rw [eA, stB n q vs us w h pic b1 b3, stC, stD, evSs_nil]
    have m8 : binD .Mod (nD v) (.int 8) = some (.int 1) := m8
    generalize ss (zL m) = z at inner
    generalize [LA, LB, LC, LD] = B at inner
    refine ⟨some (.d z), step_st (ρ' := En q vs us w h pic c7 c8 c9 c10 c11 c12 c13 (some (.d z)) c15) (s' := S) ?_⟩
    rw [evS_ite]
    simp [i2, m8, -evSs_cons]
    exact inner
  · have c' : ¬ (x : Int) = 1 := by omega
    exact ⟨c14, step_no (by simp [i2, m8, c, c'])⟩
end
end K78

namespace K78
open Cr PySem
theorem st16 (n : Nat) (ns : List Int) (vs us : List Nat) (w h : Nat) (pic : List (List Nat)) (hv : Drawn 60 vs) (S : Store) (c7 c8 c9 c10 c11 c12 c13 c14 c15 : Option W) :
    evSs (run Ga (n + 7)) Ga.gl [L16] (En (.d (.rol (ns.map .int))) vs us w h pic c7 c8 c9 c10 c11 c12 c13 c14 c15) S = .ok (.ret (.d (.bool true))) (En (.d (.rol (ns.map .int))) vs us w h pic c7 c8 c9 c10 c11 c12 c13 c14 c15) S := by
  have sq := law_squares_run n ns (vs.drop 20) (drawn_drop hv 20)
  have s20 : sliceD (.list (vs.map nD)) (some 20) none = some (.list ((vs.drop 20).map nD)) := sl_vs vs 20
  generalize vs.drop 20 = v20 at sq s20
  unfold L16
  simp [s20, sq]
theorem size_t {w h : Nat} (b : 1 ≤ w ∧ 1 ≤ h ∧ ((w ≤ 20 ∧ h ≤ 20) ∨ (w = 300 ∧ h ≤ 2) ∨ (w ≤ 2 ∧ h = 300))) : w ≤ 300 ∧ h ≤ 300 ∧ h * (w + 1) ≤ 4000 ∧ h * ((w + 1) * 4 + 1) ≤ 4000 := by
  obtain ⟨_, _, ⟨a, b⟩ | ⟨a, b⟩ | ⟨a, b⟩⟩ := b
  · refine ⟨by omega, by omega, Nat.le_trans (Nat.mul_le_mul b (show w + 1 ≤ 21 by omega)) (by decide), Nat.le_trans (Nat.mul_le_mul b (show (w + 1) * 4 + 1 ≤ 85 by omega)) (by decide)⟩
  · refine ⟨by omega, by omega, Nat.le_trans (Nat.mul_le_mul b (show w + 1 ≤ 301 by omega)) (by decide), Nat.le_trans (Nat.mul_le_mul b (show (w + 1) * 4 + 1 ≤ 1205 by omega)) (by decide)⟩
  · refine ⟨by omega, by omega, Nat.le_trans (Nat.mul_le_mul (Nat.le_of_eq b) (show w + 1 ≤ 3 by omega)) (by decide), Nat.le_trans (Nat.mul_le_mul (Nat.le_of_eq b) (show (w + 1) * 4 + 1 ≤ 13 by omega)) (by decide)⟩
theorem L4_eq : L4 = .asg (.name 5) picE := by kernel_rfl
theorem L6_eq : L6 = .for (.name 7) (.range [(.var 4)]) plB := by kernel_rfl
theorem L2_eq : L2 = b_law.body.getD 2 .bad := by kernel_rfl
theorem L3_eq : L3 = b_law.body.getD 3 .bad := by kernel_rfl
theorem picL_len (us : List Nat) (w h : Nat) : (picL us w h).length = h := by simp [picL]
theorem law_true (k : Nat) (ns : List Int) : ∃ st, run Ga (k + 7 + 1) "law" [.d (.rol (ns.map .int))] [] = .ok (.d (.bool true)) st := by
  obtain ⟨vs, hv, ev⟩ := law_numbers_run (k + 6) ns 0 60 (by decide) (by decide)
  obtain ⟨us, hu, eu⟩ := law_numbers_run (k + 6) ns 1 60 (by decide) (by decide)
  have ev : pcall (run Ga (k + 7)) "_law_numbers" [.d (.rol (ns.map .int)), .d (.int 0), .d (.int 60)] = M.pure (.list (vs.map nD)) := ev
  have eu : pcall (run Ga (k + 7)) "_law_numbers" [.d (.rol (ns.map .int)), .d (.int 1), .d (.int 60)] = M.pure (.list (us.map nD)) := eu
  obtain ⟨q, hq⟩ : ∃ q : W, q = .d (.rol (ns.map .int)) := ⟨_, rfl⟩
  obtain ⟨w, h, bd, es⟩ := size_ok (run Ga (k + 7)) hv [L4, L5, L6, L7, L8, L9, L10, L11, L12, L13, L14, L15, L16] (some q) (some (.d (.list (us.map nD)))) []
  rw [← L2_eq, ← L3_eq] at es
  obtain ⟨w2, h2, t1, t2⟩ := size_t bd
  have Hp : Pic w 16 (picL us w h) := picL_pic bd.1 w2 bd.2.1 h2
  have pe := pic_v (run Ga (k + 7)) hu w h w2 h2 (some q) (some (.d (.list (vs.map nD)))) none none none none none none none none none none none
  obtain ⟨P, x7, x8, P1, P2, el⟩ := pl_loop (k + 7) hv hu w w2 (some q) (some (.d (.int (h : Int)))) (some (.d (picD (picL us w h)))) none none none none none none none h 0 [] none none (by omega) (fun r hr => by cases hr) (by simp) h2
  have P2 : P.length = h := by simpa using P2
  have HP : Pic w 1 P := ⟨by intro e; rw [e] at P2; simp at P2; omega, by omega, fun r hr => (P1 r hr).1, bd.1, w2, fun r hr => (P1 r hr).2⟩
  obtain ⟨s1, s2⟩ := shown_ok Hp
  rw [picL_len] at s1
  obtain ⟨s3, s4⟩ := pack_ok HP
  rw [P2] at s3
  have tp : (shownT (picL us w h)).length ≤ 4000 ∧ Asc (shownT (picL us w h)) := ⟨Nat.le_trans s1 t1, s2⟩
  have tP : (packT P).length ≤ 4000 ∧ Asc (packT P) := ⟨Nat.le_trans s3 t2, s4⟩
  have rg : rangeD [.int (h : Int)] = some ((List.range' 0 h).map nD) := by rw [← List.range_eq_range']; exact range1' (by omega)
  have hpl : (picL us w h).length ≤ 300 := by rw [picL_len]; exact h2
  have b16 := fun S c7 c8 c9 c10 c11 c12 c13 c14 c15 => st16 k ns vs us w h (picL us w h) hv S c7 c8 c9 c10 c11 c12 c13 c14 c15
  rw [← hq] at b16
  generalize picL us w h = pic at Hp pe el tp b16 hpl
  clear s1 s2 s3 s4 t1 t2 bd
  obtain ⟨S, z12, hS, e12⟩ := st12 (k + 7) q vs us w h pic P Hp HP [L13, L14, L15, L16] x7 x8 (some (.d (.list [picD pic, picD P]))) (some (.d (strsD [shownT pic, packT P]))) none none none none
  obtain ⟨z13, e14⟩ := st14 (k + 1) q vs us w h pic P hv tp tP [L15, L16] S x7 x8 (some (.d (.list [picD pic, picD P]))) (some (.ref (S2 pic P).length)) z12 none none none
  obtain ⟨z14, e15⟩ := st15 (k + 1) q vs us w h pic hv [L16] S x7 x8 (some (.d (.list [picD pic, picD P]))) (some (.d (strsD [shownT pic, packT P]))) (some (.ref (S2 pic P).length)) z12 z13 none none
  have tail := (st7 (k + 7) q vs us w h pic P (by omega) (by omega) [L8, L9, L10, L11, L12, L13, L14, L15, L16] x7 x8 none none none none none none none).trans
    ((st8 (k + 5) q vs us w h pic P Hp HP [L9, L10, L11, L12, L13, L14, L15, L16] x7 x8 (some (.d (.list [picD pic, picD P]))) none none none none none none).trans
    ((st9 (k + 5) q vs us w h pic P Hp HP [L10, L11, L12, L13, L14, L15, L16] x7 x8 none none none none none).trans
    ((st10 (k + 1) q vs us w h pic P Hp HP tp.1 tP.1 [L11, L12, L13, L14, L15, L16] x7 x8 (some (.d (.list [picD pic, picD P]))) none none none none none).trans
    ((st11 (k + 1) q vs us w h pic P Hp HP [L12, L13, L14, L15, L16] x7 x8 (some (.d (.list [picD pic, picD P]))) (some (.d (strsD [shownT pic, packT P]))) none none none none).trans
    (e12.trans
    ((st13 (k + 1) q vs us w h pic P Hp HP tp.1 tP.1 [L14, L15, L16] S hS x7 x8 (some (.d (.list [picD pic, picD P]))) (some (.ref (S2 pic P).length)) z12 none none none).trans
    (e14.trans (e15.trans (b16 S x7 x8 (some (.d (.list [picD pic, picD P]))) (some (.d (strsD [shownT pic, packT P]))) (some (.ref (S2 pic P).length)) z12 z13 z14 none)))))))))
  have start : startE b_law.nn [.d (.rol (ns.map .int))] = [some q, none, none, none, none, none, none, none, none, none, none, none, none, none, none, none] := by rw [hq]; rfl
  refine ⟨S, ?_⟩
  rw [run_fn f_law rfl, law_body, start]
  rw [← hq] at ev eu
  clear hq
  generalize hB : [L7, L8, L9, L10, L11, L12, L13, L14, L15, L16] = B at tail
  have whole : evSs (run Ga (k + 7)) Ga.gl (L0 :: L1 :: L2 :: L3 :: L4 :: L5 :: L6 :: B) [some q, none, none, none, none, none, none, none, none, none, none, none, none, none, none, none] [] = .ok (.ret (.d (.bool true))) (En q vs us w h pic x7 x8 (some (.d (.list [picD pic, picD P]))) (some (.d (strsD [shownT pic, packT P]))) (some (.ref (S2 pic P).length)) z12 z13 z14 none) S := by
    rw [hB] at es
    rw [show L0 = (.asg (.name 1) (.call false "_law_numbers" [(.var 0), (.con (.int 0)), (.con (.int 60))])) from rfl, step_asg (w := .d (.list (vs.map nD))) (by simp [ev])]
    rw [show L1 = (.asg (.name 2) (.call false "_law_numbers" [(.var 0), (.con (.int 1)), (.con (.int 60))])) from rfl, step_asg (w := .d (.list (us.map nD))) (by simp [eu])]
    refine Eq.trans es ?_
    rw [L4_eq, step_asg pe]
    rw [show L5 = (.asg (.name 6) (.list true [])) from rfl, step_asgM (w := .ref 0) (s' := [dl (([] : List (List Nat)).map rowD)]) (by simp; rfl)]
    simp only [setVar_s, setVar_0]
    rw [L6_eq, step_for (xs := (List.range' 0 h).map nD) (by simp [rg, -range1_E]) el]
    exact tail
  refine (congrArg retR whole).trans ?_
  rfl
end K78

namespace K78
open PySem PySem.Spec PyProof.Rows L2 Cr
abbrev R : PySem.W.OpenRow := PySem.W.OpenLaw.row PySem.Challenge.rw_askewread_k78_notes_of_pictures
abbrev hk : PySem.W.Hook := hookC 5 (facts defs gvs) (defs.map DS.dd) (moreB (PySem.W.OpenLaw.prog PySem.Challenge.rw_askewread_k78_notes_of_pictures) exs false)
def ob (s : PySem.W.SharedT) : AlC := obsC 5 (facts defs gvs) (defs.map DS.dd) (moreB (PySem.W.OpenLaw.prog PySem.Challenge.rw_askewread_k78_notes_of_pictures) exs false) (HandSHeadRun.getT s)
theorem ob_eq (s : PySem.W.SharedT) : ob s = hk.obs s.abs := obsC_eq (HandSHeadRun.getT_eq s)
def others : List Str := (["AskewError", "BadLine", "FIGURES", "MOST_FIGURES", "read_whole", "lines_of", "is_whole", "LEAST_SIZE", "MOST_SIZE", "size_of_side", "DARK", "LIGHT", "is_square", "MOST_SIDE", "is_picture", "LEVELS", "MOST_LEVEL", "show_picture", "read_row", "read_picture", "packed_row", "unpacked_row", "show_packed", "read_packed", "show_square", "read_square_text", "square_line", "read_square_line", "_law_numbers", "_law_same"] : List Str) ++ (["_law_shown", "_law_read", "_law_packed_row", "_law_packed", "_law_unpacked", "_law_read_packed", "_law_told", "_law_near", "_law_marks", "_law_squares"] : List Str)
theorem goes (w : World) : HandSHeadRun.RunEq R (PySem.W.view R.prog [48]) hk ob 2000 others w := by
  intro os
  kernel_rfl
theorem exn : ExNames (PySem.W.OpenLaw.prog PySem.Challenge.rw_askewread_k78_notes_of_pictures) exs := ⟨by kernel_rfl, by
  intro p hp
  simp only [exs, List.mem_cons, List.not_mem_nil, or_false] at hp
  rcases hp with rfl <;> exact ⟨fun _ _ _ _ _ _ _ _ _ _ _ _ _ _ _ => by first | rfl | with_unfolding_all rfl, by decide, by decide⟩⟩
theorem main : ∀ ns : List Int, ns.length ≤ 63 → (∀ z ∈ ns, Builtin.Int.intBits z ≤ 1048576) → ∃ st, run Ga (99 + 1) "law" [.d (.rol (ns.map .int))] [] = .ok (.d (.bool true)) st := fun ns _ _ => law_true 92 ns
end K78
open PySem PySem.W PySem.Calls PyProof.Rows
theorem PySem.Challenge.cw_askewread_k78_notes_of_pictures_holds : PySem.Challenge.rw_askewread_k78_notes_of_pictures.Holds := by
  w_on; o_law
  refine HandSHeadRun.head_any (r := K78.R) (q := view K78.R.prog [48]) (H := K78.hk) (ob := K78.ob) (M := 2000) (loose := K78.others) (d := HandSHeadRun.topDef K78.R.prog 48) (kwd := []) K78.ob_eq
    (by kernel_rfl) (fun s => by kernel_rfl) K78.goes (by kernel_rfl) (by kernel_rfl) (by kernel_rfl) (by rfl) (by first | assumption | decide +kernel) (by decide +kernel) ⟨rfl, rfl, rfl, rfl, rfl, by decide +kernel⟩ ?hw ?hc
  case hw => w_witness2
  case hc => exact Cr.law_end (l := PySem.Challenge.rw_askewread_k78_notes_of_pictures) rfl (by kernel_rfl) (by kernel_rfl) ⟨rfl, by decide, by decide⟩ K78.exn K78.oks (dl := K78.d_law) (by unfold K78.defs; simp) rfl rfl K78.main
