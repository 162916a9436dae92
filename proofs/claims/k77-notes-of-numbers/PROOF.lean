import PyProof.Rows.All
import Wide.All
import OpenK.AllK
import Wide.FinOn
import HandS.ForMost
import HandS.IsInst
import HandS.StrMore
import HandS.FStr
import HandS.Flow
import HandS.Deep
import HandS.Wide
import HandS.ExcOwn
import HandS.WordsExc
import HandS.Style
import HandS.Defaults
import HandS.HeadHook1
import HandS.HeadHook2
import HandS.HeadHook4
import HandS.EndBits
import KE.KStateDown
import HandS.Head0
import HandS.Head1
import HandS.Head2
import PySem.Challenge.RW_askewread_k77_notes_of_numbers
set_option Elab.async false
set_option linter.all false
set_option maxRecDepth 100000
set_option maxHeartbeats 0
namespace Cr
open PySem

/-- data without places -/
inductive D where
  | non | bool (b : Bool) | int (i : Int) | str (s : List Nat)
  | list (xs : List D) | tup (xs : List D) | rol (xs : List D)
  deriving Inhabited
/-- what a name may hold: data, or a cell of the store -/
inductive W where
  | d (x : D) | ref (n : Nat)
  deriving Inhabited
inductive Cell where
  | list (xs : List D) | frz (d : D)
  deriving Inhabited
abbrev Store := List Cell
inductive Res (α : Type) where
  | ok (a : α) (s : Store) | exc (c : Str) (d : Option (Str × D)) (s : Store) | bad
abbrev M (α : Type) := Store → Res α
def M.pure {α : Type} (a : α) : M α := fun s => .ok a s
def Res.andThen {α β : Type} (r : Res α) (f : α → M β) : Res β := match r with
  | .ok a s => f a s
  | .exc c d s => .exc c d s
  | .bad => .bad
def M.bind {α β : Type} (m : M α) (f : α → M β) : M β := fun s => (m s).andThen f
def M.bad {α : Type} : M α := fun _ => .bad
def lift {α : Type} (o : Option α) : M α := fun s => match o with
  | some a => .ok a s
  | none => .bad
def guard (b : Bool) : M Unit := fun s => if b then .ok () s else .bad

inductive Bi where
  | len | all | any | int | str | list | abs | max | min | sum
  deriving DecidableEq, Inhabited
inductive Mt where
  | join | split | index | find | startswith
  deriving DecidableEq, Inhabited
inductive Ty where
  | bool | int | str | list | tuple
  deriving DecidableEq, Inhabited
inductive Pt where
  | name (i : Nat) | tup (ps : List Pt)
  deriving Inhabited
inductive E where
  | bad | nil
  | var (i : Nat)
  | glob (x : Str)
  | con (d : D)
  | tup (es : List E)
  | list (m : Bool) (es : List E)
  | bin (m : Bool) (op : Operator) (a b : E)
  | un (op : UnaryOp) (a : E)
  | cmp (op : CmpOp) (a b : E)
  | cmp2 (op op2 : CmpOp) (a b c : E)
  | and (a b : E) | or (a b : E) | not (a : E)
  | ite (c a b : E)
  | idx (a i : E)
  | slice (m bl bh : Bool) (a lo hi : E)
  | rev (a : E)
  | call (m : Bool) (f : Str) (es : List E)
  | bi (m : Bool) (f : Bi) (es : List E)
  | mt (m : Bool) (f : Mt) (o : E) (es : List E)
  | app (o e : E)
  | range (es : List E) | enum (a : E) | zip (a b : E)
  | lc (m : Bool) (elt : E) (tg : Pt) (it : E) (cs : List E) (own : List Nat)
  | fs (es : List E)
  | fmt (a : E)
  | isI (a : E) (t : Ty)
  deriving Inhabited
inductive S where
  | bad
  | asg (p : Pt) (e : E)
  | asgIx (o i e : E)
  | aug (i : Nat) (op : Operator) (e : E)
  | expr (e : E)
  | ret (e : E)
  | ite (c : E) (a b : List S)
  | while (c : E) (b : List S)
  | for (p : Pt) (it : E) (b : List S)
  | pass | brk | cont
  deriving Inhabited
inductive Flow where
  | next | ret (w : W) | brk | cont | exc (c : Str) (d : Option (Str × D))
abbrev Env := List (Option W)

mutual
def D.toPy : D → Option PyData
  | .non => some .none
  | .bool b => some (.bool b)
  | .int i => some (.int i)
  | .str s => some (.str ⟨s.toArray⟩)
  | .list xs => (D.toPys xs).map .list
  | .tup xs => (D.toPys xs).map .tuple
  | .rol xs => (D.toPys xs).map .list
def D.toPys : List D → Option (List PyData)
  | [] => some []
  | x :: xs => (D.toPy x).bind fun a => (D.toPys xs).map fun r => a :: r
end
def eqDeep (x y : D) : Option Bool := (D.toPy x).bind fun a => (D.toPy y).bind fun b =>
  if SeqAt.shaped a && SeqAt.shaped b then some (PyData.eqv a b) else none
def eqD (x y : D) : Option Bool := match x, y with
  | .int a, .int b => some (decide (a = b))
  | .str a, .str b => some (decide (a = b))
  | .bool a, .bool b => some (decide (a = b))
  | .non, .non => some true
  | x, y => eqDeep x y
def D.flat : D → Bool
  | .non => true | .bool _ => true | .int _ => true | .str _ => true | _ => false
/-- == of flat data -/
def eqF : D → D → Bool
  | .non, .non => true
  | .bool a, .bool b => a == b
  | .bool a, .int b => (if a then 1 else 0) == b
  | .int a, .bool b => a == (if b then 1 else 0)
  | .int a, .int b => a == b
  | .str a, .str b => decide (a = b)
  | _, _ => false
def fits (n : Nat) : Bool := decide (n ≤ 16777216)
def items : D → Option (List D)
  | .list xs => some xs | .tup xs => some xs | .rol xs => some xs | _ => none
def strsL : List D → Option (List (List Nat))
  | [] => some []
  | .str s :: xs => (strsL xs).map fun r => s :: r
  | _ :: _ => none
def boolsL : List D → Option (List Bool)
  | [] => some []
  | .bool s :: xs => (boolsL xs).map fun r => s :: r
  | _ :: _ => none
def intsL : List D → Option (List Int)
  | [] => some []
  | .int s :: xs => (intsL xs).map fun r => s :: r
  | _ :: _ => none
def truth : D → Option Bool
  | .non => some false
  | .bool b => some b
  | .int i => some (i != 0)
  | .str s => if fits s.length then some (!s.isEmpty) else none
  | .list xs => some (!xs.isEmpty)
  | .tup xs => some (!xs.isEmpty)
  | .rol xs => some (!xs.isEmpty)
def small64 (i : Int) : Bool := decide (-(2 ^ 64) < i ∧ i < 2 ^ 64)
def bits (i : Int) : Nat := i.natAbs.log2 + 1
def mulOk (i j : Int) : Bool := small64 i || small64 j
def intBin (op : Operator) (i j : Int) : Option Int := match op with
  | .Add => some (i + j)
  | .Sub => some (i - j)
  | .Mult => if mulOk i j then some (i * j) else none
  | .FloorDiv => if decide (0 < j) && decide (j < 1073741824) then some (i / j) else none
  | .Mod => if decide (0 < j) then some (i % j) else none
  | .Pow => if decide (0 ≤ j) && decide (j ≤ 1000000) && decide (i.natAbs < 2 ^ 64) then some (i ^ j.toNat) else none
  | .LShift => if decide (0 ≤ j) && decide (j ≤ 1000000) && decide (i.natAbs < 2 ^ 64) then some (i * 2 ^ j.toNat) else none
  | .RShift => if decide (0 ≤ j) then some (i / 2 ^ j.toNat) else none
  | .BitAnd => some (Builtin.bitAnd i j)
  | .BitOr => some (Builtin.bitOr i j)
  | .BitXor => some (Builtin.bitXor i j)
  | _ => none
def binD (op : Operator) (x y : D) : Option D := match x, y with
  | .int i, .int j => (intBin op i j).map .int
  | .str a, .str b => match op with
    | .Add => if fits (a.length + b.length) then some (.str (a ++ b)) else none
    | _ => none
  | .str a, .int k => match op with
    | .Mult => if decide (-(2 ^ 63) ≤ k ∧ k < 2 ^ 63) && fits (a.length * k.toNat) then some (.str (List.replicate k.toNat a).flatten) else none
    | _ => none
  | .list a, .list b => match op with
    | .Add => if fits (a.length + b.length) then some (.list (a ++ b)) else none
    | _ => none
  | .list a, .int k => match op with
    | .Mult => if decide (-(2 ^ 63) ≤ k ∧ k < 2 ^ 63) && fits (a.length * k.toNat) then some (.list (List.replicate k.toNat a).flatten) else none
    | _ => none
  | _, _ => none
def unD (op : UnaryOp) (x : D) : Option D := match op, x with
  | .USub, .int i => some (.int (-i))
  | .Invert, .int i => some (.int (Builtin.bitNot i))
  | _, _ => none
/-- x in ys, by == of data -/
def inDeep (x : D) (ys : List D) : Option Bool := (D.toPy x).bind fun d => (D.toPys ys).bind fun ds =>
  if d.canLay0 && PyData.canLayAll0 ds && decide (d.depth ≤ 60) then some (ds.any fun y => PyData.eqv y d) else none
def inD (x y : D) : Option Bool := match x, y with
  | .str [c], .str z => some (decide (c ∈ z))
  | x, .list ys => if x.flat && ys.all D.flat then some (ys.any fun z => eqF z x) else inDeep x ys
  | x, .tup ys => if x.flat && ys.all D.flat then some (ys.any fun z => eqF z x) else inDeep x ys
  | x, .rol ys => if x.flat && ys.all D.flat then some (ys.any fun z => eqF z x) else inDeep x ys
  | _, _ => none
def isNon : D → Bool
  | .non => true | _ => false
def ordD (f : Int → Int → Bool) (x y : D) : Option Bool := match x, y with
  | .int i, .int j => some (f i j)
  | _, _ => none
def cmpD (op : CmpOp) (x y : D) : Option Bool := match op with
  | .Eq => eqD x y
  | .NotEq => (eqD x y).map (!·)
  | .In => inD x y
  | .NotIn => (inD x y).map (!·)
  | .Is => match y with | .non => some (isNon x) | _ => none
  | .IsNot => match y with | .non => some (!isNon x) | _ => none
  | .Lt => ordD (fun i j => decide (i < j)) x y
  | .LtE => ordD (fun i j => decide (i ≤ j)) x y
  | .Gt => ordD (fun i j => decide (j < i)) x y
  | .GtE => ordD (fun i j => decide (j ≤ i)) x y
def cut {α : Type} (xs : List α) (lo hi : Option Int) : List α := (xs.drop (HT.sIx xs.length 0 lo)).take (HT.sIx xs.length xs.length hi - HT.sIx xs.length 0 lo)
def idxD (x i : D) : Option D := match x, i with
  | .list xs, .int i => L2.atI xs i
  | .tup xs, .int i => L2.atI xs i
  | .rol xs, .int i => L2.atI xs i
  | .str s, .int i => if fits s.length then (L2.atI s i).map fun c => .str [c] else none
  | _, _ => none
def sliceD (x : D) (lo hi : Option Int) : Option D := match x with
  | .list xs => some (.list (cut xs lo hi))
  | .rol xs => some (.list (cut xs lo hi))
  | .str s => if fits s.length then some (.str (cut s lo hi)) else none
  | _ => none
def lenD : D → Option Nat
  | .list xs => some xs.length | .tup xs => some xs.length | .rol xs => some xs.length
  | .str s => if fits s.length then some s.length else none
  | _ => none
def intStr (i : Int) : List Nat := (Str.ofString (toString i)).cps.toList
def strOfInt (i : Int) : Option (List Nat) := if decide (i.natAbs.log2 < 1920) then some (intStr i) else none
def biD (f : Bi) (xs : List D) : Option D := match f, xs with
  | .len, [x] => (lenD x).map fun (n : Nat) => .int (n : Int)
  | .all, [.list xs] => (boolsL xs).map fun bs => .bool (bs.all id)
  | .any, [.list xs] => (boolsL xs).map fun bs => .bool (bs.any id)
  | .int, [.int i] => some (.int i)
  | .int, [.bool k] => some (.int (if k then 1 else 0))
  | .int, [.str s] => if decide (s.length ≤ 640) then (intText? ⟨s.toArray⟩).map .int else none
  | .str, [.int i] => (strOfInt i).map .str
  | .list, [x] => (items x).map .list
  | .abs, [.int i] => some (.int (if i < 0 then -i else i))
  | .max, [.int i, .int j] => some (.int (if j > i then j else i))
  | .min, [.int i, .int j] => some (.int (if j < i then j else i))
  | .sum, [.list xs] => (intsL xs).map fun ns => .int ns.sum
  | _, _ => none
def joinC (sep : List Nat) (parts : List (List Nat)) : List Nat := TL.joinL sep parts
def splitC (sep s : List Nat) : List (List Nat) := TL.spl sep 0 [] s
/-- the first place of one sign -/
def mt1D (f : Mt) (s : List Nat) (x : D) : Option D := match f with
  | .join => (items x).bind fun l => (strsL l).bind fun ps =>
      if fits ((ps.map (·.length)).sum + ps.length * s.length) then some (.str (joinC s ps)) else none
  | .split => match x with
    | .str sep => if !sep.isEmpty && sep.all (· < 256) && fits (s.length + 2) then some (.list ((splitC sep s).map .str)) else none
    | _ => none
  | .index => match x with
    | .str [c] => if decide (c ∈ s) then some (.int (s.idxOf c)) else none
    | _ => none
  | .find => match x with
    | .str [c] => some (.int (if c ∈ s then (s.idxOf c : Int) else -1))
    | _ => none
  | .startswith => match x with
    | .str p => some (.bool (decide (s.take p.length = p)))
    | _ => none
def mtD (f : Mt) (o : D) (xs : List D) : Option D := match o, xs with
  | .str s, [x] => mt1D f s x
  | _, _ => none
def isID (x : D) (t : Ty) : Bool := match x, t with
  | .bool _, .bool => true | .bool _, .int => true
  | .int _, .int => true
  | .str _, .str => true
  | .list _, .list => true | .rol _, .list => true
  | .tup _, .tuple => true
  | _, _ => false

/-- the data that a word stands for now -/
def peek (w : W) : M D := fun s => match w with
  | .d x => .ok x s
  | .ref n => match s[n]? with
    | some (.list xs) => .ok (.list xs) s
    | some (.frz d) => .ok d s
    | none => .bad
/-- .. for good: a cell that is met changes no more -/
def freeze (w : W) : M D := fun s => match w with
  | .d x => .ok x s
  | .ref n => match s[n]? with
    | some (.list xs) => .ok (.list xs) (s.set n (.frz (.list xs)))
    | some (.frz d) => .ok d s
    | none => .bad
def alloc (m : Bool) (x : D) : M W := fun s => match m, x with
  | true, .list xs => .ok (.ref s.length) (s ++ [.list xs])
  | _, x => .ok (.d x) s
def setVar (i : Nat) (w : W) (ρ : Env) : Env := ρ.set i (some w)
def wipeE (ρ : Env) : List Nat → Env
  | [] => ρ
  | v :: vs => (wipeE ρ vs).set v none
mutual
def bindPt : Pt → W → Env → Option Env
  | .name i, w, ρ => some (setVar i w ρ)
  | .tup ps, .d (.tup xs), ρ => bindPts ps xs ρ
  | .tup _, _, _ => none
def bindPts : List Pt → List D → Env → Option Env
  | [], [], ρ => some ρ
  | p :: ps, x :: xs, ρ => (bindPt p (.d x) ρ).bind (bindPts ps xs)
  | _, _, _ => none
end
def rangeL (lo : Int) (n : Nat) : List D := (List.range n).map fun (k : Nat) => D.int (lo + (k : Int))
def small62 (i : Int) : Bool := decide (-(2 ^ 62) ≤ i ∧ i < 2 ^ 62)
/-- turns of a range with a step -/
def rangeN (i j c : Int) : Nat := (Builtin.Range.rangeSize i j c).toNat
def rangeC (i j c : Int) : List D := (List.range (rangeN i j c)).map fun (k : Nat) => D.int (i + (k : Int) * c)
def rangeD (xs : List D) : Option (List D) := match xs with
  | [.int j] => if small62 j then some (rangeL 0 j.toNat) else none
  | [.int i, .int j] => if small62 i && small62 j then some (rangeL i (j - i).toNat) else none
  | [.int i, .int j, .int c] => if decide (c ≠ 0) && decide (c.natAbs < 1073741824) && Builtin.Range.small i j c && decide (0 ≤ Builtin.Range.rangeSize i j c) then some (rangeC i j c) else none
  | _ => none
def enumL (xs : List D) : List D := xs.zipIdx.map fun p => .tup [.int (p.2 : Int), p.1]
def zipL (xs ys : List D) : List D := (xs.zip ys).map fun p => .tup [p.1, p.2]
/-- what a for walks, of data -/
def walkD : D → Option (List D)
  | .list xs => some xs | .rol xs => some xs | .tup xs => some xs
  | .str s => if fits s.length then some (s.map fun c => .str [c]) else none
  | _ => none

/-- the block of a comprehension over what is left of the items; the outcome's list, the last first -/
def lcLoop (body : D → M (Option D)) : List D → List D → M (List D)
  | [], acc => fun s => .ok acc.reverse s
  | x :: xs, acc => fun s => match body x s with
    | .ok none s => lcLoop body xs acc s
    | .ok (some y) s => if decide (acc.length < 16777216) then lcLoop body xs (y :: acc) s else .bad
    | _ => .bad
/-- what a statement comes to -/
inductive SR where
  | ok (f : Flow) (ρ : Env) (s : Store) | bad
def exS {α : Type} (r : Res α) (ρ : Env) (k : α → Store → SR) : SR := match r with
  | .ok a s => k a s
  | .exc c d s => .ok (.exc c d) ρ s
  | .bad => .bad
def forLoop (body : D → Env → Store → SR) : List D → Env → Store → SR
  | [], ρ, s => .ok .next ρ s
  | x :: xs, ρ, s => match body x ρ s with
    | .ok .next ρ s => forLoop body xs ρ s
    | .ok .cont ρ s => forLoop body xs ρ s
    | .ok .brk ρ s => .ok .next ρ s
    | r => r
def whileLoop (test : Env → M Bool) (body : Env → Store → SR) : Nat → Env → Store → SR
  | 0, _, _ => .bad
  | n + 1, ρ, s => exS (test ρ s) ρ fun b s => if b then match body ρ s with
      | .ok .next ρ s => whileLoop test body n ρ s
      | .ok .cont ρ s => whileLoop test body n ρ s
      | .ok .brk ρ s => .ok .next ρ s
      | r => r
    else .ok .next ρ s
def freezes : List W → M (List D)
  | [] => M.pure []
  | w :: ws => M.bind (freeze w) fun x => M.bind (freezes ws) fun xs => M.pure (x :: xs)
def peeks : List W → M (List D)
  | [] => M.pure []
  | w :: ws => M.bind (peek w) fun x => M.bind (peeks ws) fun xs => M.pure (x :: xs)
def D.atom : D → Bool
  | .non => true | .bool _ => true | .int _ => true | .str _ => true | _ => false
/-- a call by data alone: its own store; what is handed over is frozen where the answer may hold it -/
def pcall (run : Str → List W → M W) (f : Str) (ws : List W) : M D := fun s => match peeks ws s with
  | .ok xs _ => match run f (xs.map .d) [] with
    | .ok w st => match freeze w st with
      | .ok x _ => if x.atom then .ok x s else (freezes ws s).andThen fun _ s => .ok x s
      | _ => .bad
    | .exc c d _ => (freezes ws s).andThen fun _ s => .exc c d s
    | .bad => .bad
  | _ => .bad
def getVar (i : Nat) (ρ : Env) : M W := fun s => match ρ[i]? with
  | some (some w) => .ok w s
  | _ => .bad
def partI : Option D → Option (Option Int)
  | none => some none
  | some (.int i) => some (some i)
  | _ => none
def isStr : D → Bool
  | .str _ => true | _ => false
def guardL (w : W) : M Unit := fun s => match w with
  | .ref n => match s[n]? with
    | some (.list _) => .ok () s
    | _ => .bad
  | _ => .bad
def append (w : W) (x : D) : M W := fun s => match w with
  | .ref n => match s[n]? with
    | some (.list xs) => if decide (xs.length < 16777216) then .ok (.d .non) (s.set n (.list (xs ++ [x]))) else .bad
    | _ => .bad
  | _ => .bad
def setIx (o : W) (i : D) (x : D) : M Unit := fun s => match o, i with
  | .ref n, .int k => match s[n]? with
    | some (.list xs) => match L2.ixN xs.length k with
      | some j => .ok () (s.set n (.list (xs.set j x)))
      | none => .bad
    | _ => .bad
  | _, _ => .bad
structure Glob where
  val : Str → Option D

section
variable (run : Str → List W → M W) (gl : Str → Option D)
def fmtD : D → Option (List Nat)
  | .str s => if fits s.length then some s else none
  | .int i => strOfInt i
  | _ => none
def strD : D → Option (List Nat)
  | .str s => some s
  | _ => none
def catC (acc : List Nat) (x : List Nat) : M (List Nat) := fun s => if fits (acc.length + x.length) then .ok (acc ++ x) s else .bad
def revD (x : D) : Option D := match x with
  | .str s => if fits s.length then some (.str s.reverse) else none
  | .list xs => some (.list xs.reverse)
  | .rol xs => some (.list xs.reverse)
  | _ => none
structure Sm where
  v : Env → M W
  t : Env → M Bool
  i : Env → M (List D)
def vT (v : Env → M W) (ρ : Env) : M Bool := M.bind (v ρ) fun w => M.bind (peek w) fun x => lift (truth x)
def vI (v : Env → M W) (ρ : Env) : M (List D) := M.bind (v ρ) fun w => M.bind (freeze w) fun x => lift (walkD x)
def ofV (v : Env → M W) : Sm := ⟨v, vT v, vI v⟩
def smL : List Sm → Env → M (List W)
  | [], _ => M.pure []
  | e :: es, ρ => M.bind (e.v ρ) fun w => M.bind (smL es ρ) fun ws => M.pure (w :: ws)
def smT : List Sm → Env → M Bool
  | [], _ => M.pure true
  | e :: es, ρ => M.bind (e.t ρ) fun t => if t then smT es ρ else M.pure false
def smF : List Sm → List Nat → Env → M (List Nat)
  | [], acc, _ => M.pure acc
  | e :: es, acc, ρ => M.bind (e.v ρ) fun w => M.bind (peek w) fun x => M.bind (lift (strD x)) fun s => M.bind (catC acc s) fun acc => smF es acc ρ
def partW (w : W) : M (Option Int) := M.bind (peek w) fun x => match x with
  | .int i => M.pure (some i)
  | _ => M.bad
def lcBody (tg : Pt) (cs : List Sm) (elt : Sm) (ρ : Env) (x : D) : M (Option D) :=
  M.bind (lift (bindPt tg (.d x) ρ)) fun ρ1 => M.bind (smT cs ρ1) fun t =>
    if t then M.bind (elt.v ρ1) fun w => M.bind (freeze w) fun y => M.pure (some y) else M.pure none
mutual
def sem : E → Sm
  | .bad => ofV fun _ => M.bad
  | .nil => ofV fun _ => M.bad
  | .var i => ofV fun ρ => getVar i ρ
  | .glob x => ofV fun _ => M.bind (lift (gl x)) fun d => M.pure (.d d)
  | .con d => ofV fun _ => M.pure (.d d)
  | .tup es => ofV fun ρ => M.bind (smL (sems es) ρ) fun ws => M.bind (freezes ws) fun xs => M.bind (guard (fits xs.length)) fun _ => M.pure (.d (.tup xs))
  | .list m es => ofV fun ρ => M.bind (smL (sems es) ρ) fun ws => M.bind (freezes ws) fun xs => M.bind (guard (fits xs.length)) fun _ => alloc m (.list xs)
  | .bin m op a b => ofV fun ρ => M.bind ((sem a).v ρ) fun x => M.bind ((sem b).v ρ) fun y => M.bind (peek x) fun x => M.bind (peek y) fun y => M.bind (lift (binD op x y)) fun z => alloc m z
  | .un op a => ofV fun ρ => M.bind ((sem a).v ρ) fun x => M.bind (peek x) fun x => M.bind (lift (unD op x)) fun z => M.pure (.d z)
  | .cmp op a b => ofV fun ρ => M.bind ((sem a).v ρ) fun x => M.bind ((sem b).v ρ) fun y => M.bind (peek x) fun x => M.bind (peek y) fun y => M.bind (lift (cmpD op x y)) fun z => M.pure (.d (.bool z))
  | .cmp2 op op2 a b c => ofV fun ρ => M.bind ((sem a).v ρ) fun x => M.bind ((sem b).v ρ) fun y => M.bind (peek x) fun x => M.bind (peek y) fun y' => M.bind (lift (cmpD op x y')) fun z =>
      if z then M.bind ((sem c).v ρ) fun w => M.bind (peek y) fun y => M.bind (peek w) fun w => M.bind (lift (cmpD op2 y w)) fun z => M.pure (.d (.bool z)) else M.pure (.d (.bool false))
  | .and a b => { v := fun ρ => M.bind ((sem a).v ρ) fun x => M.bind (peek x) fun d => M.bind (lift (truth d)) fun t => if t then (sem b).v ρ else M.pure x
                  t := fun ρ => M.bind ((sem a).t ρ) fun t => if t then (sem b).t ρ else M.pure false
                  i := fun _ => M.bad }
  | .or a b => { v := fun ρ => M.bind ((sem a).v ρ) fun x => M.bind (peek x) fun d => M.bind (lift (truth d)) fun t => if t then M.pure x else (sem b).v ρ
                 t := fun ρ => M.bind ((sem a).t ρ) fun t => if t then M.pure true else (sem b).t ρ
                 i := fun _ => M.bad }
  | .not a => { v := fun ρ => M.bind ((sem a).v ρ) fun x => M.bind (peek x) fun d => M.bind (lift (truth d)) fun t => M.pure (.d (.bool (!t)))
                t := fun ρ => M.bind ((sem a).t ρ) fun t => M.pure (!t)
                i := fun _ => M.bad }
  | .ite c a b => { ofV (fun ρ => M.bind ((sem c).t ρ) fun t => if t then (sem a).v ρ else (sem b).v ρ) with t := fun ρ => M.bind ((sem c).t ρ) fun t => if t then (sem a).t ρ else (sem b).t ρ }
  | .idx a i => ofV fun ρ => M.bind ((sem a).v ρ) fun x => M.bind ((sem i).v ρ) fun y => M.bind (peek x) fun x => M.bind (peek y) fun y => M.bind (lift (idxD x y)) fun z => M.pure (.d z)
  | .slice m bl bh a lo hi => ofV fun ρ => M.bind ((sem a).v ρ) fun x => M.bind (if bl then M.bind ((sem lo).v ρ) partW else M.pure none) fun l => M.bind (if bh then M.bind ((sem hi).v ρ) partW else M.pure none) fun h =>
      M.bind (peek x) fun x => M.bind (lift (sliceD x l h)) fun z => alloc m z
  | .rev a => ofV fun ρ => M.bind ((sem a).v ρ) fun x => M.bind (peek x) fun x => M.bind (lift (revD x)) fun z => alloc false z
  | .call m f es => ofV fun ρ => M.bind (smL (sems es) ρ) fun ws => if m then run f ws else M.bind (pcall run f ws) fun z => M.pure (.d z)
  | .bi m f es => ofV fun ρ => M.bind (smL (sems es) ρ) fun ws => M.bind (peeks ws) fun xs => M.bind (lift (biD f xs)) fun z => alloc m z
  | .mt m f o es => ofV fun ρ => M.bind ((sem o).v ρ) fun x => M.bind (peek x) fun x0 => M.bind (guard (isStr x0)) fun _ => M.bind (smL (sems es) ρ) fun ws => M.bind (peek x) fun x => M.bind (peeks ws) fun xs => M.bind (lift (mtD f x xs)) fun z => alloc m z
  | .app o e => ofV fun ρ => M.bind ((sem o).v ρ) fun x => M.bind (guardL x) fun _ => M.bind ((sem e).v ρ) fun w => M.bind (freeze w) fun y => append x y
  | .range es => { ofV (fun _ => M.bad) with i := fun ρ => M.bind (smL (sems es) ρ) fun ws => M.bind (peeks ws) fun xs => lift (rangeD xs) }
  | .enum a => { ofV (fun _ => M.bad) with i := fun ρ => M.bind ((sem a).v ρ) fun w => M.bind (freeze w) fun x => match x with
      | .list xs => M.pure (enumL xs)
      | _ => M.bad }
  | .zip a b => { ofV (fun _ => M.bad) with i := fun ρ => M.bind ((sem a).v ρ) fun w => M.bind ((sem b).v ρ) fun u => M.bind (freeze w) fun x => M.bind (freeze u) fun y => match x, y with
      | .list xs, .list ys => M.pure (zipL xs ys)
      | _, _ => M.bad }
  | .lc m elt tg it cs own => ofV fun ρ => M.bind ((sem it).i ρ) fun xs => M.bind (lcLoop (lcBody tg (sems cs) (sem elt) (wipeE ρ own)) xs []) fun ys => alloc m (.list ys)
  | .fs es => ofV fun ρ => M.bind (smF (sems es) [] ρ) fun s => M.pure (.d (.str s))
  | .fmt a => ofV fun ρ => M.bind ((sem a).v ρ) fun x => M.bind (peek x) fun x => M.bind (lift (fmtD x)) fun s => M.pure (.d (.str s))
  | .isI a t => ofV fun ρ => M.bind ((sem a).v ρ) fun x => M.bind (peek x) fun x => M.pure (.d (.bool (isID x t)))
def sems : List E → List Sm
  | [] => []
  | e :: es => sem e :: sems es
end
def evE (e : E) (ρ : Env) : M W := (sem run gl e).v ρ
def evT (e : E) (ρ : Env) : M Bool := (sem run gl e).t ρ
def evI (e : E) (ρ : Env) : M (List D) := (sem run gl e).i ρ
def noFuel : Nat := 1000000000
def augD (op : Operator) (x y : D) : Option D := match x, y with
  | .int a, .int b => (intBin op a b).map .int
  | _, _ => none
def asgS (o : Option Env) (s : Store) : SR := match o with
  | some ρ => .ok .next ρ s
  | none => .bad
def forBody (p : Pt) (b : Env → Store → SR) (x : D) (ρ : Env) (s : Store) : SR := match bindPt p (.d x) ρ with
  | some ρ => b ρ s
  | none => .bad
mutual
def evS : S → Env → Store → SR
  | .bad, _, _ => .bad
  | .asg p e, ρ, s => exS (evE run gl e ρ s) ρ fun w s => asgS (bindPt p w ρ) s
  | .asgIx o i e, ρ, s => exS (M.bind (evE run gl e ρ) (fun w => M.bind (evE run gl o ρ) fun x => M.bind (evE run gl i ρ) fun y => M.bind (freeze w) fun w => M.bind (peek y) fun y => setIx x y w) s) ρ fun _ s => .ok .next ρ s
  | .aug i op e, ρ, s => exS (M.bind (getVar i ρ) (fun x => M.bind (evE run gl e ρ) fun y => M.bind (peek x) fun x => M.bind (peek y) fun y => lift (augD op x y)) s) ρ fun z s => .ok .next (setVar i (.d z) ρ) s
  | .expr e, ρ, s => exS (evE run gl e ρ s) ρ fun _ s => .ok .next ρ s
  | .ret e, ρ, s => exS (evE run gl e ρ s) ρ fun w s => .ok (.ret w) ρ s
  | .ite c a b, ρ, s => exS (evT run gl c ρ s) ρ fun t s => if t then evSs a ρ s else evSs b ρ s
  | .while c b, ρ, s => whileLoop (evT run gl c) (evSs b) noFuel ρ s
  | .for p it b, ρ, s => exS (evI run gl it ρ s) ρ fun xs s => forLoop (forBody p (evSs b)) xs ρ s
  | .pass, ρ, s => .ok .next ρ s
  | .brk, ρ, s => .ok .brk ρ s
  | .cont, ρ, s => .ok .cont ρ s
def evSs : List S → Env → Store → SR
  | [], ρ, s => .ok .next ρ s
  | st :: ss, ρ, s => match evS st ρ s with
    | .ok .next ρ s => evSs ss ρ s
    | r => r
end
end
/-- a def: how many parameters, how many names, its body -/
structure Fn where
  np : Nat
  nn : Nat
  body : List S
  deriving Inhabited
structure Prog where
  fn : Str → Option Fn
  gl : Str → Option D
def startE (n : Nat) (ws : List W) : Env := ws.map some ++ List.replicate (n - ws.length) none
def retR : SR → Res W
  | .ok (.ret w) _ s => .ok w s
  | .ok .next _ s => .ok (.d .non) s
  | .ok (.exc c d) _ s => .exc c d s
  | _ => .bad
def run (Γ : Prog) : Nat → Str → List W → M W
  | 0, _, _ => M.bad
  | n + 1, f, ws => match Γ.fn f with
    | none => M.bad
    | some fd => if decide (ws.length = fd.np) then fun s => retR (evSs (run Γ n) Γ.gl fd.body (startE fd.nn ws) s) else M.bad
end Cr

namespace Cr
open PySem
structure CC where
  N : List Str
  fn : Str → Bool
  gl : Str → Bool
  /-- names of the def that hold cells -/
  mv : Str → Bool
  /-- what the def hands back is a cell -/
  rm : Bool
  /-- defs that are called with cells, or that hand back cells -/
  im : Str → Bool
def glob? (sc : Scope) (x : Str) : Bool := sc.names.lookup x == some .globalImplicit && !(x == ("__debug__" : Str)) && !(x == ("__name__" : Str))
def slot? (c : CC) (sc : Scope) (x : Str) : Option Nat := match sc.names.lookup x with
  | some .local | some .cell | some .free => if x == ("__debug__" : Str) || x == ("__classdict__" : Str) then none else c.N.idxOf? x
  | _ => none
def isSlice : Expr → Bool
  | .Slice .. => true
  | _ => false
def isStar : Expr → Bool
  | .Starred .. => true
  | _ => false
def isSuper : Expr → Bool
  | .Call (.Name id _) [] [] _ => id == ("super" : Str)
  | _ => false
def isComp : Expr → Bool
  | .ListComp .. => true | .SetComp .. => true | .DictComp .. => true | _ => false
def conD : Const → Option D
  | .none => some .non
  | .bool b => some (.bool b)
  | .int i => some (.int i)
  | .str s => some (.str s.cps.toList)
  | _ => none
def biOf (f : Str) (n : Nat) : Option Bi :=
  if f == "len" && n == 1 then some .len else if f == "all" && n == 1 then some .all else if f == "any" && n == 1 then some .any
  else if f == "int" && n == 1 then some .int else if f == "str" && n == 1 then some .str else if f == "list" && n == 1 then some .list
  else if f == "abs" && n == 1 then some .abs else if f == "max" && n == 2 then some .max else if f == "min" && n == 2 then some .min
  else if f == "sum" && n == 1 then some .sum else none
def mtOf (f : Str) (n : Nat) : Option Mt :=
  if f == "join" && n == 1 then some .join else if f == "split" && n == 1 then some .split else if f == "index" && n == 1 then some .index
  else if f == "find" && n == 1 then some .find else if f == "startswith" && n == 1 then some .startswith else none
def tyOf (f : Str) : Option Ty :=
  if f == "bool" then some .bool else if f == "int" then some .int else if f == "str" then some .str else if f == "list" then some .list else if f == "tuple" then some .tuple else none
def relSc (scope sc : Scope) : Scope := L2.relS scope sc
def compPt (c : CC) (sc : Scope) : Nat → Expr → Option Pt
  | 0, _ => none
  | n + 1, e => match e with
    | .Name x _ => (slot? c sc x).bind fun i => match sc.names.lookup x with
        | some .local | some .cell => some (.name i)
        | _ => none
    | .Tuple es _ _ => (es.mapM (compPt c sc n)).map .tup
    | _ => none
def ptSlots : Nat → Pt → List Nat
  | 0, _ => []
  | n + 1, p => match p with
    | .name i => [i]
    | .tup ps => ps.flatMap (ptSlots n)
def andE : List E → E
  | [] => .bad
  | [e] => e
  | e :: es => .and e (andE es)
def orE : List E → E
  | [] => .bad
  | [e] => e
  | e :: es => .or e (orE es)
def noStar (es : List Expr) : Bool := es.all fun e => !isStar e
def isTupE : Expr → Bool
  | .Tuple .. => true
  | _ => false
/-- what gives pairs wants a tuple's target -/
def walkOk (tg : Expr) : Expr → Bool
  | .Call (.Name f _) _ _ _ => isTupE tg || !(f == ("enumerate" : Str) || f == ("zip" : Str))
  | .Set .. => false
  | _ => true
/-- a built-in type's name -/
def tyE (c : CC) (sc : Scope) : Expr → Option Ty
  | .Name t _ => if glob? sc t && !c.fn t then tyOf t else none
  | _ => none
def ownOf (c : CC) (scope : Scope) : List (Str × Nat) := scope.names.filterMap fun y => if y.2 == .local || y.2 == .cell then (c.N.idxOf? y.1).map fun i => (y.1, i) else none
def isM1 : Expr → Bool
  | .UnaryOp .USub (.Constant (.int i) _ _) _ => decide (i = 1)
  | _ => false
/-- m: the value is to be a cell -/
def compE (c : CC) : Nat → Scope → Bool → Expr → E
  | 0, _, _, _ => .bad
  | n + 1, sc, m, e => match e with
    | .Name x _ => match slot? c sc x with
      | some i => .var i
      | none => if glob? sc x && c.gl x then .glob x else .bad
    | .Constant k _ _ => match conD k with
      | some d => .con d
      | none => .bad
    | .Tuple es _ _ => if noStar es then .tup (es.map (compE c n sc false)) else .bad
    | .List es _ => if noStar es then .list m (es.map (compE c n sc false)) else .bad
    | .BinOp a op b _ => .bin m op (compE c n sc false a) (compE c n sc false b)
    | .UnaryOp .Not a _ => .not (compE c n sc false a)
    | .UnaryOp op a _ => .un op (compE c n sc false a)
    | .Compare a [op] [b] _ => if behindInMarks op b then .bad else .cmp op (compE c n sc false a) (compE c n sc false b)
    | .Compare a [op, op2] [b, d] _ => if behindInMarks op2 d then .bad else .cmp2 op op2 (compE c n sc false a) (compE c n sc false b) (compE c n sc false d)
    | .BoolOp .And es _ => if decide (2 ≤ es.length) then andE (es.map (compE c n sc false)) else .bad
    | .BoolOp .Or es _ => if decide (2 ≤ es.length) then orE (es.map (compE c n sc false)) else .bad
    | .IfExp t a b _ => .ite (compE c n sc false t) (compE c n sc m a) (compE c n sc m b)
    | .Subscript a i _ => match i with
      | .Slice lo hi st _ => match st with
        | none => .slice m lo.isSome hi.isSome (compE c n sc false a) (match lo with | none => .nil | some e => compE c n sc false e) (match hi with | none => .nil | some e => compE c n sc false e)
        | some s => if isM1 s && lo.isNone && hi.isNone then .rev (compE c n sc false a) else .bad
      | i => .idx (compE c n sc false a) (compE c n sc false i)
    | .JoinedStr es _ => if noStar es && decide (2 ≤ es.length) then .fs (es.map (compE c n sc false)) else .bad
    | .FormattedValue e cv sp _ => if decide (cv = -1) && sp.isNone then .fmt (compE c n sc false e) else .bad
    | .ListComp elt gens scope _ => match gens with
      | [⟨tg, it, cs, isa⟩] => match compPt c scope 5 tg with
        | some p => if L2.blkC c.N sc scope (ownOf c scope) && walkOk tg it && decide (cs.length ≤ 1) && decide (isa = 0) && (ptSlots 5 p).all fun i => ((ownOf c scope).map (·.2)).contains i then
            .lc m (compE c n (relSc scope sc) false elt) p (compE c n sc false it) (cs.map (compE c n (relSc scope sc) false)) ((ownOf c scope).map (·.2)) else .bad
        | none => .bad
      | _ => .bad
    | .Call fn es kw cp => match kw with
      | _ :: _ => .bad
      | [] => match fn with
        | .Name f _ =>
          if !(glob? sc f && noStar es) then .bad
          else if c.fn f then .call (m || c.im f) f (es.map (compE c n sc false))
          else if f == "range" then (if decide (es.length ≤ 3) then .range (es.map (compE c n sc false)) else .bad)
          else if f == "isinstance" then match es with
            | [a, t] => match tyE c sc t with
              | some t => .isI (compE c n sc false a) t
              | none => .bad
            | _ => .bad
          else if f == "enumerate" then match es with
            | [a] => .enum (compE c n sc false a)
            | _ => .bad
          else if f == "zip" then match es with
            | [a, b] => .zip (compE c n sc false a) (compE c n sc false b)
            | _ => .bad
          else match biOf f es.length with
            | some b => .bi m b (es.map (compE c n sc false))
            | none => .bad
        | .Attribute o f ap =>
          if !(noStar es && ap.endLine == cp.line && !isSuper o) then .bad
          else match es with
            | [a] => if f == "append" then .app (compE c n sc false o) (compE c n sc false a) else match mtOf f 1 with
              | some b => .mt m b (compE c n sc false o) [compE c n sc false a]
              | none => .bad
            | _ => .bad
        | _ => .bad
    | _ => .bad
def fuel : Nat := 40
def isTup : Expr → Bool
  | .Tuple .. => true
  | _ => false
def stepNames (scope : Scope) (t : Str) : Bool := scope.names.any fun (n, k) => n == t && (k == .local || k == .cell)
/-- where the names of the comprehension and the target's are exchanged -/
def lcSwap (sc scope : Scope) (x : Str) (tp ep : Pos) : Bool := sc.names.lookup x == some .local && tp.line == ep.line && !stepNames scope x
def compName (c : CC) (sc : Scope) (tg : Expr) (x : Str) (tp : Pos) (e : Expr) : S := match compPt c sc 5 tg with
  | some p => match e with
    | .SetComp .. => .bad
    | .DictComp .. => .bad
    | .ListComp _ _ scope ep => if lcSwap sc scope x tp ep then .asg p (compE c fuel sc (c.mv x) e) else .bad
    | e => .asg p (compE c fuel sc (c.mv x) e)
  | none => .bad
def compAsg (c : CC) (sc : Scope) (e tg : Expr) : S := match tg with
  | .Name x tp => compName c sc (.Name x tp) x tp e
  | .Tuple es j tp => if isTup e || isComp e then .bad else match compPt c sc 5 (.Tuple es j tp) with
    | some p => .asg p (compE c fuel sc false e)
    | none => .bad
  | _ => .bad
def compS (c : CC) (sc : Scope) : Nat → Stmt → S
  | 0, _ => .bad
  | n + 1, st => match st with
    | .Assign tgs e _ => match tgs with
      | [tg] => compAsg c sc e tg
      | _ => .bad
    | .Expr e _ => if isComp e then .bad else .expr (compE c fuel sc false e)
    | .Return r _ => match r with
      | some e => .ret (compE c fuel sc c.rm e)
      | none => .ret (.con .non)
    | .If t a b _ => .ite (compE c fuel sc false t) (a.map (compS c sc n)) (b.map (compS c sc n))
    | .While t b el _ => match el with
      | [] => .while (compE c fuel sc false t) (b.map (compS c sc n))
      | _ => .bad
    | .For tg it b el _ => match el with
      | [] => if walkOk tg it then match compPt c sc 5 tg with
          | some p => .for p (compE c fuel sc false it) (b.map (compS c sc n))
          | none => .bad
        else .bad
      | _ => .bad
    | .Pass _ => .pass
    | .Break _ => .brk
    | .Continue _ => .cont
    | _ => .bad
/-- names that a body changes in place -/
def mutNames : Nat → Stmt → List Str
  | 0, _ => []
  | n + 1, st => match st with
    | .Assign [.Subscript (.Name x _) _ _] _ _ => [x]
    | .Expr (.Call (.Attribute (.Name x _) f _) _ _ _) _ => if f == "append" || f == "extend" || f == "pop" || f == "update" then [x] else []
    | .If _ a b _ => a.flatMap (mutNames n) ++ b.flatMap (mutNames n)
    | .While _ a _ _ => a.flatMap (mutNames n)
    | .For _ _ a _ _ => a.flatMap (mutNames n)
    | _ => []
def argNames (a : Arguments) : List Str := a.args.map (·.arg)
/-- what a def's text tells, beside the names of the whole program -/
def slotsOf (st : Stmt) : List Str :=
  let a := argNames (L2.defArgs st)
  a ++ ((L2.defScope st).names.filterMap fun y => if (y.2 == .local || y.2 == .cell || y.2 == .free) && !a.contains y.1 then some y.1 else none)
end Cr

namespace Cr
open PySem L2
abbrev KF := PySem.W.Frag

def Ex (H H' : Hp) : Prop := ∀ a o, H a = some o → H' a = some o
theorem Ex.refl (H : Hp) : Ex H H := fun _ _ h => h
theorem Ex.trans {H H1 H2 : Hp} (a : Ex H H1) (b : Ex H1 H2) : Ex H H2 := fun x o h => b x o (a x o h)
theorem Ex.new {H : Hp} {p : Addr} {o : HO} (h : H p = none) : Ex H (upd H p o) := fun a u e => by
  rw [upd_ne (ne_of_none e h)]
  exact e
theorem Ex.rd {H H' : Hp} {a : Addr} {u : HO} (e : Ex H H') (h : Rd H a u) : Rd H' a u := by
  rcases h with h | ⟨o, h⟩
  · exact Or.inl (e a _ h)
  · exact Or.inr ⟨o, e a _ h⟩
theorem Ex.sql {K : KF} {H H' : Hp} {a : Addr} {xs : List V} (e : Ex H H') (h : SqL K H a xs) : SqL K H' a xs := by
  rcases h with h | h
  · exact Or.inl (e.rd h)
  · exact Or.inr h
theorem Ex.sqt {K : KF} {H H' : Hp} {a : Addr} {xs : List V} (e : Ex H H') (h : SqT K H a xs) : SqT K H' a xs := by
  rcases h with h | h
  · exact Or.inl (e.rd h)
  · exact Or.inr h

mutual
/-- a value, of data that stands for good -/
inductive Den (K : KF) (B : Hp) : D → V → Prop
  | non : Den K B .non .non
  | bool (b : Bool) : Den K B (.bool b) (.bl b)
  | int (i : Int) : Den K B (.int i) (.int i)
  | str (s : List Nat) : Den K B (.str s) (.str ⟨s.toArray⟩)
  | list {a : Addr} {xs : List D} {vs : List V} : B a = some (.lst vs) → DenL K B xs vs → Den K B (.list xs) (.ref a)
  | tup {a : Addr} {xs : List D} {vs : List V} : B a = some (.tup vs) → DenL K B xs vs → Den K B (.tup xs) (.ref a)
  | rol {a : Addr} {xs : List D} {vs : List V} : SqL K B a vs → DenL K B xs vs → Den K B (.rol xs) (.ref a)
inductive DenL (K : KF) (B : Hp) : List D → List V → Prop
  | nil : DenL K B [] []
  | cons {x : D} {xs : List D} {v : V} {vs : List V} : Den K B x v → DenL K B xs vs → DenL K B (x :: xs) (v :: vs)
end
mutual
theorem Den.mono {K : KF} {B B' : Hp} (e : Ex B B') : ∀ {x : D} {v : V}, Den K B x v → Den K B' x v
  | _, _, .non => .non
  | _, _, .bool b => .bool b
  | _, _, .int i => .int i
  | _, _, .str s => .str s
  | _, _, .list h l => .list (e _ _ h) (DenL.mono e l)
  | _, _, .tup h l => .tup (e _ _ h) (DenL.mono e l)
  | _, _, .rol h l => .rol (e.sql h) (DenL.mono e l)
theorem DenL.mono {K : KF} {B B' : Hp} (e : Ex B B') : ∀ {xs : List D} {vs : List V}, DenL K B xs vs → DenL K B' xs vs
  | _, _, .nil => .nil
  | _, _, .cons h l => .cons (Den.mono e h) (DenL.mono e l)
end
theorem DenL.length {K : KF} {B : Hp} : ∀ {xs : List D} {vs : List V}, DenL K B xs vs → xs.length = vs.length
  | _, _, .nil => rfl
  | _, _, .cons _ l => congrArg (· + 1) (DenL.length l)
theorem DenL.get {K : KF} {B : Hp} : ∀ {xs : List D} {vs : List V} {i : Nat} {x : D}, DenL K B xs vs → xs[i]? = some x → ∃ v, vs[i]? = some v ∧ Den K B x v
  | _, _, i, x, .nil, e => by simp at e
  | _, _, 0, x, .cons h _, e => by
    simp at e
    subst e
    exact ⟨_, rfl, h⟩
  | _, _, i + 1, x, .cons _ l, e => by
    obtain ⟨v, h1, h2⟩ := DenL.get (i := i) (x := x) l (by simpa using e)
    exact ⟨v, by simpa using h1, h2⟩
theorem DenL.append {K : KF} {B : Hp} : ∀ {xs ys : List D} {vs ws : List V}, DenL K B xs vs → DenL K B ys ws → DenL K B (xs ++ ys) (vs ++ ws)
  | _, _, _, _, .nil, r => r
  | _, _, _, _, .cons h l, r => .cons h (DenL.append l r)
theorem DenL.drop {K : KF} {B : Hp} : ∀ {xs : List D} {vs : List V} (n : Nat), DenL K B xs vs → DenL K B (xs.drop n) (vs.drop n)
  | _, _, 0, r => r
  | _, _, _ + 1, .nil => .nil
  | _, _, n + 1, .cons _ l => DenL.drop n l
theorem DenL.take {K : KF} {B : Hp} : ∀ {xs : List D} {vs : List V} (n : Nat), DenL K B xs vs → DenL K B (xs.take n) (vs.take n)
  | _, _, 0, _ => .nil
  | _, _, _ + 1, .nil => .nil
  | _, _, n + 1, .cons h l => .cons h (DenL.take n l)
theorem DenL.set {K : KF} {B : Hp} {x : D} {v : V} (h : Den K B x v) : ∀ {xs : List D} {vs : List V} (i : Nat), DenL K B xs vs → DenL K B (xs.set i x) (vs.set i v)
  | _, _, _, .nil => .nil
  | _, _, 0, .cons _ l => .cons h l
  | _, _, i + 1, .cons q l => .cons q (DenL.set h i l)
theorem DenL.rep {K : KF} {B : Hp} {xs : List D} {vs : List V} (h : DenL K B xs vs) : ∀ k : Nat, DenL K B (List.replicate k xs).flatten (List.replicate k vs).flatten
  | 0 => .nil
  | k + 1 => by
    rw [List.replicate_succ, List.replicate_succ, List.flatten_cons, List.flatten_cons]
    exact h.append (DenL.rep h k)

/-- what stands for good, where the cells lie, what they hold -/
structure Cfg where
  B : Hp
  pl : List Addr
  st : Store
def WDen (K : KF) (c : Cfg) : W → V → Prop
  | .d x, v => Den K c.B x v
  | .ref n, v => ∃ a, c.pl[n]? = some a ∧ v = .ref a
def CellOk (K : KF) (B H : Hp) (a : Addr) : Cell → Prop
  | .list xs => B a = none ∧ ∃ vs, H a = some (.lst vs) ∧ DenL K B xs vs
  | .frz d => Den K B d (.ref a)
structure Ok (K : KF) (c : Cfg) (H : Hp) : Prop where
  sub : Ex c.B H
  len : c.pl.length = c.st.length
  nd : c.pl.Nodup
  cells : ∀ (n : Nat) (a : Addr) (cell : Cell), c.pl[n]? = some a → c.st[n]? = some cell → CellOk K c.B H a cell
  own : ∀ a : Addr, a ∈ c.pl → H a ≠ none
/-- from one state to a later one -/
structure Ext (c : Cfg) (H : Hp) (c' : Cfg) (H' : Hp) : Prop where
  exB : Ex c.B c'.B
  pre : ∃ more, c'.pl = c.pl ++ more ∧ ∀ a ∈ more, H a = none
  there : ∀ a, H a ≠ none → H' a ≠ none
  frame : ∀ a o, H a = some o → c.B a = none → a ∉ c.pl → H' a = some o ∧ c'.B a = none
variable {K : KF} {c c1 c2 : Cfg} {H H1 H2 : Hp}
theorem Ext.refl (c : Cfg) (H : Hp) : Ext c H c H := ⟨Ex.refl _, ⟨[], by simp, by simp⟩, fun _ h => h, fun _ _ h1 h2 _ => ⟨h1, h2⟩⟩
theorem Ext.trans (o1 : Ok K c1 H1) (a : Ext c H c1 H1) (b : Ext c1 H1 c2 H2) : Ext c H c2 H2 := by
  obtain ⟨m1, e1, f1⟩ := a.pre
  obtain ⟨m2, e2, f2⟩ := b.pre
  refine ⟨a.exB.trans b.exB, ⟨m1 ++ m2, by rw [e2, e1, List.append_assoc], fun x hx => ?_⟩, fun x h => b.there x (a.there x h), fun x o h1 h2 h3 => ?_⟩
  · rcases List.mem_append.mp hx with h | h
    · exact f1 x h
    · cases e : H x with
      | none => rfl
      | some o => exact absurd (f2 x h) (a.there x (by rw [e]; simp))
  · obtain ⟨q1, q2⟩ := a.frame x o h1 h2 h3
    refine b.frame x o q1 q2 ?_
    rw [e1]
    intro hx
    rcases List.mem_append.mp hx with h | h
    · exact h3 h
    · rw [f1 x h] at h1
      cases h1
theorem Ext.ix (e : Ext c H c1 H1) {n : Nat} {a : Addr} (h : c.pl[n]? = some a) : c1.pl[n]? = some a := by
  obtain ⟨m, e, _⟩ := e.pre
  rw [e, List.getElem?_append_left (List.getElem?_eq_some_iff.mp h).1]
  exact h
theorem WDen.mono (e : Ext c H c1 H1) {w : W} {v : V} (h : WDen K c w v) : WDen K c1 w v := by
  cases w with
  | d x => exact Den.mono e.exB h
  | ref n =>
    obtain ⟨a, h1, h2⟩ := h
    exact ⟨a, e.ix h1, h2⟩
inductive WDenL (K : KF) (c : Cfg) : List W → List V → Prop
  | nil : WDenL K c [] []
  | cons {x : W} {xs : List W} {v : V} {vs : List V} : WDen K c x v → WDenL K c xs vs → WDenL K c (x :: xs) (v :: vs)
theorem WDenL.mono (e : Ext c H c1 H1) : ∀ {xs : List W} {vs : List V}, WDenL K c xs vs → WDenL K c1 xs vs
  | _, _, .nil => .nil
  | _, _, .cons h l => .cons (h.mono e) (WDenL.mono e l)
theorem WDenL.length : ∀ {xs : List W} {vs : List V}, WDenL K c xs vs → xs.length = vs.length
  | _, _, .nil => rfl
  | _, _, .cons _ l => congrArg (· + 1) (WDenL.length l)

theorem new_data {p : Addr} {o : HO} (k : Ok K c H) (hp : H p = none) : Ok K ⟨upd c.B p o, c.pl, c.st⟩ (upd H p o) ∧ Ext c H ⟨upd c.B p o, c.pl, c.st⟩ (upd H p o) := by
  have bp : c.B p = none := by
    cases e : c.B p with
    | none => rfl
    | some u => rw [k.sub p u e] at hp; cases hp
  have eB : Ex c.B (upd c.B p o) := Ex.new bp
  have eH : Ex H (upd H p o) := Ex.new hp
  refine ⟨⟨fun a u h => ?_, k.len, k.nd, fun n a cell h1 h2 => ?_, fun a ha => ?_⟩, ⟨eB, ⟨[], by simp, by simp⟩, fun a h => ?_, fun a u h1 h2 h3 => ?_⟩⟩
  · have h : upd c.B p o a = some u := h
    by_cases e : a = p
    · subst e
      rw [upd_same] at h ⊢
      exact h
    · rw [upd_ne e] at h ⊢
      exact k.sub a u h
  · have q := k.cells n a cell h1 h2
    have ha : H a ≠ none := k.own a (List.mem_of_getElem? h1)
    have ne : a ≠ p := fun e => ha (e ▸ hp)
    cases cell with
    | list xs =>
      obtain ⟨q1, vs, q2, q3⟩ := q
      exact ⟨by show upd c.B p o a = none; rw [upd_ne ne]; exact q1, vs, by rw [upd_ne ne]; exact q2, q3.mono eB⟩
    | frz d => exact Den.mono eB q
  · have := k.own a ha
    cases e : H a with
    | none => exact absurd e this
    | some u => rw [eH a u e]; simp
  · cases e : H a with
    | none => exact absurd e h
    | some u => rw [eH a u e]; simp
  · have ne : a ≠ p := ne_of_none h1 hp
    exact ⟨eH a u h1, by show upd c.B p o a = none; rw [upd_ne ne]; exact h2⟩
theorem new_cell {p : Addr} {xs : List D} {vs : List V} (k : Ok K c H) (hp : H p = none) (hx : DenL K c.B xs vs) :
    Ok K ⟨c.B, c.pl ++ [p], c.st ++ [.list xs]⟩ (upd H p (.lst vs)) ∧ Ext c H ⟨c.B, c.pl ++ [p], c.st ++ [.list xs]⟩ (upd H p (.lst vs)) := by
  have bp : c.B p = none := by
    cases e : c.B p with
    | none => rfl
    | some u => rw [k.sub p u e] at hp; cases hp
  have eH : Ex H (upd H p (.lst vs)) := Ex.new hp
  have np : p ∉ c.pl := fun h => k.own p h hp
  refine ⟨⟨fun a u h => eH a u (k.sub a u h), by simp [k.len], ?_, fun n a cell h1 h2 => ?_, fun a ha => ?_⟩, ⟨Ex.refl _, ⟨[p], rfl, by simp [hp]⟩, fun a h => ?_, fun a u h1 h2 h3 => ⟨eH a u h1, h2⟩⟩⟩
  · show (c.pl ++ [p]).Nodup
    rw [List.nodup_append]
    refine ⟨k.nd, by simp, fun a ha b hb e => ?_⟩
    have : b = p := by simpa using hb
    subst this
    exact np (e ▸ ha)
  · have h1 : (c.pl ++ [p])[n]? = some a := h1
    have h2 : (c.st ++ [Cell.list xs])[n]? = some cell := h2
    by_cases hn : n < c.pl.length
    · rw [List.getElem?_append_left hn] at h1
      rw [List.getElem?_append_left (k.len ▸ hn)] at h2
      have q := k.cells n a cell h1 h2
      have ha : H a ≠ none := k.own a (List.mem_of_getElem? h1)
      have ne : a ≠ p := fun e => ha (e ▸ hp)
      cases cell with
      | list xs =>
        obtain ⟨q1, vs, q2, q3⟩ := q
        exact ⟨q1, vs, by rw [upd_ne ne]; exact q2, q3⟩
      | frz d => exact q
    · rw [List.getElem?_append_right (by omega)] at h1
      rw [List.getElem?_append_right (by have := k.len; omega)] at h2
      have e1 : n - c.pl.length = 0 := by
        have := (List.getElem?_eq_some_iff.mp h1).1
        simpa using this
      have e2 : n - c.st.length = 0 := by rw [← k.len]; exact e1
      rw [e1] at h1
      rw [e2] at h2
      have h1 : p = a := by simpa using h1
      have h2 : Cell.list xs = cell := by simpa using h2
      subst h1
      subst h2
      exact ⟨bp, vs, upd_same, hx⟩
  · rcases List.mem_append.mp ha with h | h
    · have := k.own a h
      cases e : H a with
      | none => exact absurd e this
      | some u => rw [eH a u e]; simp
    · have : a = p := by simpa using h
      subst this
      rw [upd_same]
      simp
  · cases e : H a with
    | none => exact absurd e h
    | some u => rw [eH a u e]; simp
/-- a cell is written -/
theorem put_cell {n : Nat} {a : Addr} {xs ys : List D} {ws : List V} (k : Ok K c H) (hi : c.pl[n]? = some a) (hs : c.st[n]? = some (.list xs)) (hy : DenL K c.B ys ws) :
    Ok K ⟨c.B, c.pl, c.st.set n (.list ys)⟩ (upd H a (.lst ws)) ∧ Ext c H ⟨c.B, c.pl, c.st.set n (.list ys)⟩ (upd H a (.lst ws)) := by
  obtain ⟨b0, vs, h0, d0⟩ := k.cells n a _ hi hs
  have hm : a ∈ c.pl := List.mem_of_getElem? hi
  have there : ∀ b, H b ≠ none → upd H a (.lst ws) b ≠ none := fun b h => by
    by_cases e : b = a
    · subst e
      rw [upd_same]
      simp
    · rw [upd_ne e]
      exact h
  refine ⟨⟨fun b u h => ?_, by simp [k.len], k.nd, fun m b cell h1 h2 => ?_, fun b hb => there b (k.own b hb)⟩, ⟨Ex.refl _, ⟨[], by simp, by simp⟩, there, fun b u h1 h2 h3 => ⟨?_, h2⟩⟩⟩
  · have ne : b ≠ a := fun e => by
      subst e
      rw [show c.B b = some u from h] at b0
      cases b0
    rw [upd_ne ne]
    exact k.sub b u h
  · have h1 : c.pl[m]? = some b := h1
    have h2 : (c.st.set n (Cell.list ys))[m]? = some cell := h2
    by_cases e : m = n
    · subst e
      rw [hi] at h1
      cases h1
      rw [List.getElem?_set_self (List.getElem?_eq_some_iff.mp hs).1] at h2
      cases h2
      exact ⟨b0, ws, upd_same, hy⟩
    · rw [List.getElem?_set_ne (Ne.symm e)] at h2
      have q := k.cells m b cell h1 h2
      have ne : b ≠ a := fun z => e (by
        subst z
        obtain ⟨l1, e1⟩ := List.getElem?_eq_some_iff.mp h1
        obtain ⟨l2, e2⟩ := List.getElem?_eq_some_iff.mp hi
        exact (List.getElem_inj k.nd).mp (e1.trans e2.symm))
      cases cell with
      | list zs =>
        obtain ⟨q1, us, q2, q3⟩ := q
        exact ⟨q1, us, by rw [upd_ne ne]; exact q2, q3⟩
      | frz d => exact q
  · have ne : b ≠ a := fun e => h3 (e ▸ hm)
    rw [upd_ne ne]
    exact h1
/-- a cell is frozen -/
theorem frz_cell {n : Nat} {a : Addr} {xs : List D} (k : Ok K c H) (hi : c.pl[n]? = some a) (hs : c.st[n]? = some (.list xs)) :
    ∃ B', Ok K ⟨B', c.pl, c.st.set n (.frz (.list xs))⟩ H ∧ Ext c H ⟨B', c.pl, c.st.set n (.frz (.list xs))⟩ H ∧ Den K B' (.list xs) (.ref a) := by
  obtain ⟨b0, vs, h0, d0⟩ := k.cells n a _ hi hs
  have hm : a ∈ c.pl := List.mem_of_getElem? hi
  have eB : Ex c.B (upd c.B a (.lst vs)) := Ex.new b0
  have dn : Den K (upd c.B a (.lst vs)) (.list xs) (.ref a) := .list upd_same (d0.mono eB)
  refine ⟨upd c.B a (.lst vs), ⟨fun b u h => ?_, by simp [k.len], k.nd, fun m b cell h1 h2 => ?_, k.own⟩, ⟨eB, ⟨[], by simp, by simp⟩, fun _ h => h, fun b u h1 h2 h3 => ⟨h1, ?_⟩⟩, dn⟩
  · have h : upd c.B a (.lst vs) b = some u := h
    by_cases e : b = a
    · subst e
      rw [upd_same] at h
      cases h
      exact h0
    · rw [upd_ne e] at h
      exact k.sub b u h
  · have h1 : c.pl[m]? = some b := h1
    have h2 : (c.st.set n (Cell.frz (.list xs)))[m]? = some cell := h2
    by_cases e : m = n
    · subst e
      rw [hi] at h1
      cases h1
      rw [List.getElem?_set_self (List.getElem?_eq_some_iff.mp hs).1] at h2
      cases h2
      exact dn
    · rw [List.getElem?_set_ne (Ne.symm e)] at h2
      have q := k.cells m b cell h1 h2
      have ne : b ≠ a := fun z => e (by
        subst z
        obtain ⟨l1, e1⟩ := List.getElem?_eq_some_iff.mp h1
        obtain ⟨l2, e2⟩ := List.getElem?_eq_some_iff.mp hi
        exact (List.getElem_inj k.nd).mp (e1.trans e2.symm))
      cases cell with
      | list zs =>
        obtain ⟨q1, us, q2, q3⟩ := q
        exact ⟨by show upd c.B a (.lst vs) b = none; rw [upd_ne ne]; exact q1, us, q2, q3.mono eB⟩
      | frz d => exact Den.mono eB q
  · have ne : b ≠ a := fun e => h3 (e ▸ hm)
    show upd c.B a (.lst vs) b = none
    rw [upd_ne ne]
    exact h2
end Cr

namespace Cr
open PySem L2

def XR (K : KF) (mg : Str → Option Value) (B : Hp) (x : Str) (d : Option (Str × D)) (cls : Value) (da : Option Addr) : Prop :=
  ∃ C, cls = .ref C ∧ mg x = some (.ref C) ∧ match d with
    | none => da = none
    | some (f, y) => ∃ a v, da = some a ∧ B a = some (.xd [(f, v)]) ∧ Den K B y v
abbrev EK := Value → Option Addr → Hp → Prop
/-- R: how the outcome shows -/
def Post {α β : Type} (K : KF) (mg : Str → Option Value) (c : Cfg) (H : Hp) (r : Res α) (R : Cfg → Hp → α → β → Prop) (Q : β → Hp → Prop) (E : EK) : Prop := match r with
  | .ok a st => ∀ c' H' b, c'.st = st → Ext c H c' H' → Ok K c' H' → R c' H' a b → Q b H'
  | .exc x d st => ∀ c' H' cls da, c'.st = st → Ext c H c' H' → Ok K c' H' → XR K mg c'.B x d cls da → E cls da H'
  | .bad => False
def ERel (K : KF) (c : Cfg) (ρ : Env) (σ : L2.St) : Prop := ρ.length = σ.length ∧ ∀ (i : Nat) (w : W), ρ[i]? = some (some w) → ∃ v, σ[i]? = some (some v) ∧ WDen K c w v

section
variable {K : KF} {mg : Str → Option Value} {c c1 : Cfg} {H H1 : Hp} {α β γ : Type} {σ : L2.St} {ρ : Env}
theorem ERel.mono (e : Ext c H c1 H1) (h : ERel K c ρ σ) : ERel K c1 ρ σ := ⟨h.1, fun i w q => by
  obtain ⟨v, h1, h2⟩ := h.2 i w q
  exact ⟨v, h1, h2.mono e⟩⟩
theorem Post.later {r : Res α} {R : Cfg → Hp → α → β → Prop} {Q : β → Hp → Prop} {E : EK} (o : Ok K c1 H1) (e : Ext c H c1 H1) (h : Post K mg c H r R Q E) : Post K mg c1 H1 r R Q E := by
  cases r with
  | ok a st => exact fun c' H' b h1 h2 h3 h4 => h c' H' b h1 (Ext.trans o e h2) h3 h4
  | exc x d st => exact fun c' H' cls da h1 h2 h3 h4 => h c' H' cls da h1 (Ext.trans o e h2) h3 h4
  | bad => exact h
theorem Post.imp {r : Res α} {R : Cfg → Hp → α → β → Prop} {Q Q' : β → Hp → Prop} {E : EK} (h : Post K mg c H r R Q E) (q : ∀ b H', Q b H' → Q' b H') : Post K mg c H r R Q' E := by
  cases r with
  | ok a st => exact fun c' H' b h1 h2 h3 h4 => q _ _ (h c' H' b h1 h2 h3 h4)
  | exc x d st => exact h
  | bad => exact h
/-- the outcome, shown here and now -/
theorem Post.now {a : α} {b : β} {R : Cfg → Hp → α → β → Prop} {Q : β → Hp → Prop} {E : EK} (o : Ok K c H) (h : Post K mg c H (.ok a c.st) R Q E) (r : R c H a b) : Q b H := h c H b rfl (Ext.refl c H) o r

/-- a reading by an outcome -/
def tG (K : KF) (mg : Str → Option Value) (Wx : WX) (m : Env → M α) (R : Cfg → Hp → α → β → Prop) : L2.St → Hp → (β → Hp → Prop) → Prop := fun σ H Q =>
  ∃ c ρ, Ok K c H ∧ ERel K c ρ σ ∧ Post K mg c H (m ρ c.st) R Q (fun cls da H' => Wx cls da σ H')
theorem tG.imp {Wx : WX} {m : Env → M α} {R : Cfg → Hp → α → β → Prop} {Q Q' : β → Hp → Prop} (h : tG K mg Wx m R σ H Q) (q : ∀ b H', Q b H' → Q' b H') : tG K mg Wx m R σ H Q' := by
  obtain ⟨c, ρ, o, e, p⟩ := h
  exact ⟨c, ρ, o, e, p.imp q⟩
/-- first m, then k -/
theorem tG.bind {Wx : WX} {δ : Type} {m : Env → M α} {k : α → M γ} {R1 : Cfg → Hp → α → β → Prop} {R : Cfg → Hp → γ → δ → Prop} {Q : δ → Hp → Prop} {E : EK} (o : Ok K c H) (e : ERel K c ρ σ) (hE : E = fun cls da H' => Wx cls da σ H')
    (h : Post K mg c H (M.bind (m ρ) k c.st) R Q E) :
    tG K mg Wx m R1 σ H fun b H1 => ∃ c1 a, Ext c H c1 H1 ∧ Ok K c1 H1 ∧ ERel K c1 ρ σ ∧ R1 c1 H1 a b ∧ Post K mg c1 H1 (k a c1.st) R Q E := by
  subst hE
  refine ⟨c, ρ, o, e, ?_⟩
  show Post K mg c H (m ρ c.st) _ _ _
  have h : Post K mg c H ((m ρ c.st).andThen k) R Q _ := h
  generalize m ρ c.st = r at h
  cases r with
  | ok a st =>
    intro c' H' b h1 h2 h3 h4
    subst h1
    exact ⟨c', a, h2, h3, e.mono h2, h4, Post.later h3 h2 h⟩
  | exc x d st => exact h
  | bad => exact h
/-- .. and how m ended -/
theorem tG.bindE {Wx : WX} {δ : Type} {m : Env → M α} {k : α → M γ} {R1 : Cfg → Hp → α → β → Prop} {R : Cfg → Hp → γ → δ → Prop} {Q : δ → Hp → Prop} {E : EK} (o : Ok K c H) (e : ERel K c ρ σ) (hE : E = fun cls da H' => Wx cls da σ H')
    (h : Post K mg c H (M.bind (m ρ) k c.st) R Q E) :
    tG K mg Wx m R1 σ H fun b H1 => ∃ c1 a, m ρ c.st = .ok a c1.st ∧ Ext c H c1 H1 ∧ Ok K c1 H1 ∧ ERel K c1 ρ σ ∧ R1 c1 H1 a b ∧ Post K mg c1 H1 (k a c1.st) R Q E := by
  subst hE
  refine ⟨c, ρ, o, e, ?_⟩
  show Post K mg c H (m ρ c.st) _ _ _
  have h : Post K mg c H ((m ρ c.st).andThen k) R Q _ := h
  generalize hr : m ρ c.st = r at h
  cases r with
  | ok a st =>
    intro c' H' b h1 h2 h3 h4
    subst h1
    exact ⟨c', a, rfl, h2, h3, e.mono h2, h4, Post.later h3 h2 h⟩
  | exc x d st => exact h
  | bad => exact h
theorem post_lift {δ : Type} {o : Option α} {k : α → M γ} {R : Cfg → Hp → γ → δ → Prop} {Q : δ → Hp → Prop} {E : EK} (h : Post K mg c H (M.bind (lift o) k c.st) R Q E) : ∃ a, o = some a ∧ Post K mg c H (k a c.st) R Q E := by
  cases o with
  | none => exact h.elim
  | some a => exact ⟨a, rfl, h⟩
theorem post_guard {δ : Type} {b : Bool} {k : Unit → M γ} {R : Cfg → Hp → γ → δ → Prop} {Q : δ → Hp → Prop} {E : EK} (h : Post K mg c H (M.bind (guard b) k c.st) R Q E) : b = true ∧ Post K mg c H (k () c.st) R Q E := by
  cases b with
  | false => exact h.elim
  | true => exact ⟨rfl, h⟩
/-- data as it is seen now: its own object in the heap, its items for good -/
def See (K : KF) (B H : Hp) : D → V → Prop
  | .list xs, v => ∃ a vs, v = .ref a ∧ H a = some (.lst vs) ∧ DenL K B xs vs
  | x, v => Den K B x v
theorem See.of {x : D} {v : V} (o : Ok K c H) (h : Den K c.B x v) : See K c.B H x v := by
  cases h with
  | non => exact .non
  | bool b => exact .bool b
  | int i => exact .int i
  | str s => exact .str s
  | list h l => exact ⟨_, _, rfl, o.sub _ _ h, l⟩
  | tup h l => exact .tup h l
  | rol h l => exact .rol h l
theorem post_peek {δ : Type} {w : W} {v : V} {k : D → M γ} {R : Cfg → Hp → γ → δ → Prop} {Q : δ → Hp → Prop} {E : EK} (o : Ok K c H) (d : WDen K c w v) (h : Post K mg c H (M.bind (peek w) k c.st) R Q E) :
    ∃ x, See K c.B H x v ∧ Post K mg c H (k x c.st) R Q E := by
  cases w with
  | d x => exact ⟨x, See.of o d, h⟩
  | ref n =>
    obtain ⟨a, h1, rfl⟩ := d
    have h : Post K mg c H ((match c.st[n]? with | some (.list xs) => Res.ok (D.list xs) c.st | some (.frz d) => .ok d c.st | none => .bad).andThen k) R Q E := h
    cases e : c.st[n]? with
    | none =>
      rw [e] at h
      exact h.elim
    | some cell =>
      rw [e] at h
      have q := o.cells n a cell h1 e
      cases cell with
      | list xs =>
        obtain ⟨_, vs, q2, q3⟩ := q
        exact ⟨.list xs, ⟨a, vs, rfl, q2, q3⟩, h⟩
      | frz d => exact ⟨d, See.of o q, h⟩
/-- freeze as it is -/
theorem post_freeze {δ : Type} {w : W} {v : V} {k : D → M γ} {R : Cfg → Hp → γ → δ → Prop} {Q : δ → Hp → Prop} {E : EK} (o : Ok K c H) (d : WDen K c w v) (h : Post K mg c H (M.bind (freeze w) k c.st) R Q E) :
    ∃ c1 x, Ext c H c1 H ∧ Ok K c1 H ∧ Den K c1.B x v ∧ Post K mg c1 H (k x c1.st) R Q E := by
  cases w with
  | d x => exact ⟨c, x, Ext.refl c H, o, d, h⟩
  | ref n =>
    obtain ⟨a, h1, rfl⟩ := d
    have h : Post K mg c H ((match c.st[n]? with | some (.list xs) => Res.ok (D.list xs) (c.st.set n (.frz (.list xs))) | some (.frz d) => .ok d c.st | none => .bad).andThen k) R Q E := h
    cases e : c.st[n]? with
    | none =>
      rw [e] at h
      exact h.elim
    | some cell =>
      rw [e] at h
      cases cell with
      | list xs =>
        obtain ⟨B', o1, e1, d1⟩ := frz_cell o h1 e
        exact ⟨_, .list xs, e1, o1, d1, Post.later o1 e1 h⟩
      | frz d => exact ⟨c, d, Ext.refl c H, o, o.cells n a _ h1 e, h⟩
theorem post_freezes {δ : Type} {R : Cfg → Hp → γ → δ → Prop} {Q : δ → Hp → Prop} {E : EK} : ∀ {ws : List W} {vs : List V} {c : Cfg} {k : List D → M γ}, Ok K c H → WDenL K c ws vs → Post K mg c H (M.bind (freezes ws) k c.st) R Q E →
    ∃ c1 xs, Ext c H c1 H ∧ Ok K c1 H ∧ DenL K c1.B xs vs ∧ Post K mg c1 H (k xs c1.st) R Q E
  | [], _, c, k, o, .nil, h => ⟨c, [], Ext.refl c H, o, .nil, h⟩
  | w :: ws, _, c, k, o, .cons d l, h => by
    have assoc : M.bind (freezes (w :: ws)) k c.st = M.bind (freeze w) (fun x => M.bind (freezes ws) fun xs => k (x :: xs)) c.st := by
      show ((freeze w c.st).andThen fun x s => ((freezes ws s).andThen fun xs => M.pure (x :: xs))).andThen k = (freeze w c.st).andThen fun x s => (freezes ws s).andThen fun xs => k (x :: xs)
      cases freeze w c.st with
      | ok x s =>
        show ((freezes ws s).andThen fun xs => M.pure (x :: xs)).andThen k = (freezes ws s).andThen fun xs => k (x :: xs)
        cases freezes ws s <;> rfl
      | exc _ _ _ => rfl
      | bad => rfl
    rw [assoc] at h
    obtain ⟨c1, x, e1, o1, d1, h1⟩ := post_freeze o d h
    obtain ⟨c2, xs, e2, o2, d2, h2⟩ := post_freezes o1 (l.mono e1) h1
    exact ⟨c2, x :: xs, Ext.trans o1 e1 e2, o2, .cons (Den.mono e2.exB d1) d2, h2⟩
inductive SeeL (K : KF) (B H : Hp) : List D → List V → Prop
  | nil : SeeL K B H [] []
  | cons {x : D} {xs : List D} {v : V} {vs : List V} : See K B H x v → SeeL K B H xs vs → SeeL K B H (x :: xs) (v :: vs)
theorem post_peeks {δ : Type} {R : Cfg → Hp → γ → δ → Prop} {Q : δ → Hp → Prop} {E : EK} (o : Ok K c H) : ∀ {ws : List W} {vs : List V} {k : List D → M γ}, WDenL K c ws vs → Post K mg c H (M.bind (peeks ws) k c.st) R Q E →
    ∃ xs, SeeL K c.B H xs vs ∧ Post K mg c H (k xs c.st) R Q E
  | [], _, k, .nil, h => ⟨[], .nil, h⟩
  | w :: ws, _, k, .cons d l, h => by
    have assoc : M.bind (peeks (w :: ws)) k c.st = M.bind (peek w) (fun x => M.bind (peeks ws) fun xs => k (x :: xs)) c.st := by
      show ((peek w c.st).andThen fun x s => ((peeks ws s).andThen fun xs => M.pure (x :: xs))).andThen k = (peek w c.st).andThen fun x s => (peeks ws s).andThen fun xs => k (x :: xs)
      cases peek w c.st with
      | ok x s =>
        show ((peeks ws s).andThen fun xs => M.pure (x :: xs)).andThen k = (peeks ws s).andThen fun xs => k (x :: xs)
        cases peeks ws s <;> rfl
      | exc _ _ _ => rfl
      | bad => rfl
    rw [assoc] at h
    obtain ⟨x, d1, h1⟩ := post_peek o d h
    obtain ⟨xs, d2, h2⟩ := post_peeks o l h1
    exact ⟨x :: xs, .cons d1 d2, h2⟩
/-- the answers' ends -/
abbrev RW (K : KF) : Cfg → Hp → W → V → Prop := fun c _ w v => WDen K c w v
theorem done_d {x : D} {v : V} {Q : VK} {E : EK} (o : Ok K c H) (h : Post K mg c H (M.pure (W.d x) c.st) (RW K) Q E) (d : Den K c.B x v) : Q v H := Post.now o h d
theorem alloc_old {m : Bool} {x : D} {v : V} {Q : VK} {E : EK} (o : Ok K c H) (hx : ∀ xs, x ≠ .list xs) (h : Post K mg c H (alloc m x c.st) (RW K) Q E) (d : Den K c.B x v) : Q v H := by
  have e : alloc m x c.st = .ok (.d x) c.st := by
    cases m with
    | false => rfl
    | true =>
      cases x with
      | list xs => exact absurd rfl (hx xs)
      | _ => rfl
  rw [e] at h
  exact Post.now (b := v) o h d
theorem alloc_new {m : Bool} {xs : List D} {vs : List V} {Q : VK} {E : EK} (o : Ok K c H) (h : Post K mg c H (alloc m (.list xs) c.st) (RW K) Q E) (d : DenL K c.B xs vs) : ∀ p, H p = none → Q (.ref p) (upd H p (.lst vs)) := fun p hp => by
  cases m with
  | false =>
    obtain ⟨o1, e1⟩ := new_data (o := HO.lst vs) o hp
    exact h ⟨upd c.B p (.lst vs), c.pl, c.st⟩ _ (.ref p) rfl e1 o1 (.list upd_same (d.mono e1.exB))
  | true =>
    obtain ⟨o1, e1⟩ := new_cell o hp d
    exact h _ _ _ rfl e1 o1 ⟨p, by show (c.pl ++ [p])[c.st.length]? = some p; rw [← o.len, List.getElem?_append_right (Nat.le_refl _)]; simp, rfl⟩
theorem tup_new {xs : List D} {vs : List V} {Q : VK} {E : EK} (o : Ok K c H) (h : Post K mg c H (M.pure (W.d (.tup xs)) c.st) (RW K) Q E) (d : DenL K c.B xs vs) : ∀ p, H p = none → Q (.ref p) (upd H p (.tup vs)) := fun p hp => by
  obtain ⟨o1, e1⟩ := new_data (o := HO.tup vs) o hp
  exact h ⟨upd c.B p (.tup vs), c.pl, c.st⟩ _ (.ref p) rfl e1 o1 (.tup upd_same (d.mono e1.exB))
/-- names -/
theorem ERel.set {i : Nat} {w : W} {v : V} (h : ERel K c ρ σ) (d : WDen K c w v) : ERel K c (setVar i w ρ) (σ.set i (some v)) := by
  refine ⟨by simp [setVar, h.1], fun j u q => ?_⟩
  have q : (ρ.set i (some w))[j]? = some (some u) := q
  by_cases e : i = j
  · subst e
    by_cases hi : i < ρ.length
    · rw [List.getElem?_set_self hi] at q
      cases q
      exact ⟨v, by rw [List.getElem?_set_self (h.1 ▸ hi)], d⟩
    · rw [List.getElem?_eq_none (by simpa using hi)] at q
      cases q
  · rw [List.getElem?_set_ne e] at q
    obtain ⟨u', q1, q2⟩ := h.2 j u q
    exact ⟨u', by rw [List.getElem?_set_ne e]; exact q1, q2⟩
theorem ERel.wipe (h : ERel K c ρ σ) : ∀ vs : List Nat, ERel K c (wipeE ρ vs) (wipe σ vs)
  | [] => h
  | v :: vs => by
    have ih := ERel.wipe h vs
    refine ⟨by simp [wipeE, L2.wipe, ih.1], fun j u q => ?_⟩
    have q : ((wipeE ρ vs).set v none)[j]? = some (some u) := q
    show ∃ v', ((L2.wipe σ vs).set v none)[j]? = some (some v') ∧ _
    by_cases e : v = j
    · subst e
      by_cases hi : v < (wipeE ρ vs).length
      · rw [List.getElem?_set_self hi] at q
        cases q
      · rw [List.getElem?_eq_none (by simpa using hi)] at q
        cases q
    · rw [List.getElem?_set_ne e] at q
      obtain ⟨u', q1, q2⟩ := ih.2 j u q
      exact ⟨u', by rw [List.getElem?_set_ne e]; exact q1, q2⟩
end
end Cr

namespace Cr
open PySem L2
theorem fits_le {n : Nat} (h : fits n = true) : n ≤ sizeLine := by
  have := of_decide_eq_true h
  rw [sizeLine_eq]
  exact this
theorem and2 {a b : Bool} (h : (a && b) = true) : a = true ∧ b = true := by simpa using h
theorem and3 {a b c : Bool} (h : (a && b && c) = true) : a = true ∧ b = true ∧ c = true := by
  obtain ⟨h, q⟩ := and2 h
  obtain ⟨h, r⟩ := and2 h
  exact ⟨h, r, q⟩
theorem S_len (s : List Nat) : (⟨s.toArray⟩ : Str).length = s.length := by simp [Str.length]
theorem S_inj {a b : List Nat} (h : (⟨a.toArray⟩ : Str) = ⟨b.toArray⟩) : a = b := by
  have := congrArg (fun x : Str => x.cps.toList) h
  simpa using this
theorem S_app (a b : List Nat) : (⟨a.toArray⟩ : Str) ++ ⟨b.toArray⟩ = ⟨(a ++ b).toArray⟩ := TL.ext_tl (TL.tl_append _ _)
theorem S_of (z : Str) : (⟨z.cps.toList.toArray⟩ : Str) = z := TL.ext_tl rfl
section
variable {X : Cx} {K : KF} {c : Cfg} {H : Hp}
theorem if_some {b : Bool} {α : Type} {x z : α} (h : (if b then some x else none) = some z) : b = true ∧ x = z := by
  cases b with
  | false => cases h
  | true => exact ⟨rfl, Option.some.inj h⟩
def rBinI (op : Operator) : R2 := fun x y H Q => ∃ i j z, x = .int i ∧ y = .int j ∧ intBin op i j = some z ∧ Q (.int z) H
theorem op_int : ∀ op : Operator, OpR X (binaryOp op) (rBinI op) := by
  intro op pins s σ H x y v u Q I rx ry h
  obtain ⟨i, j, z, rfl, rfl, e, q⟩ := h
  cases op with
  | Add => cases e; exact op_add pins s σ H _ _ v u Q I rx ry ⟨i, j, rfl, rfl, q⟩
  | Sub => cases e; exact op_sub pins s σ H _ _ v u Q I rx ry ⟨i, j, rfl, rfl, q⟩
  | Mult =>
    obtain ⟨e0, rfl⟩ := if_some e
    refine op_mul pins s σ H _ _ v u Q I rx ry ⟨i, j, rfl, rfl, ?_, q⟩
    unfold mulOk at e0
    rcases (Bool.or_eq_true _ _).mp e0 with e | e
    · exact .inl (of_decide_eq_true e)
    · exact .inr (of_decide_eq_true e)
  | FloorDiv =>
    obtain ⟨e0, rfl⟩ := if_some e
    obtain ⟨e1, e2⟩ := and2 e0
    exact op_fdiv pins s σ H _ _ v u Q I rx ry ⟨i, j, rfl, rfl, ⟨of_decide_eq_true e1, of_decide_eq_true e2⟩, q⟩
  | Mod =>
    obtain ⟨e0, rfl⟩ := if_some e
    exact op_mod pins s σ H _ _ v u Q I rx ry ⟨i, j, rfl, rfl, of_decide_eq_true e0, q⟩
  | Pow =>
    obtain ⟨e0, rfl⟩ := if_some e
    obtain ⟨e1, e2, e3⟩ := and3 e0
    exact op_pow pins s σ H _ _ v u Q I rx ry ⟨i, j, rfl, rfl, ⟨of_decide_eq_true e1, of_decide_eq_true e2, of_decide_eq_true e3⟩, q⟩
  | LShift =>
    obtain ⟨e0, rfl⟩ := if_some e
    obtain ⟨e1, e2, e3⟩ := and3 e0
    exact op_shl pins s σ H _ _ v u Q I rx ry ⟨i, j, rfl, rfl, ⟨of_decide_eq_true e1, of_decide_eq_true e2, of_decide_eq_true e3⟩, q⟩
  | RShift =>
    obtain ⟨e0, rfl⟩ := if_some e
    exact op_shr pins s σ H _ _ v u Q I rx ry ⟨i, j, rfl, rfl, of_decide_eq_true e0, q⟩
  | BitAnd => cases e; exact op_and pins s σ H _ _ v u Q I rx ry ⟨i, j, rfl, rfl, q⟩
  | BitOr => cases e; exact op_or pins s σ H _ _ v u Q I rx ry ⟨i, j, rfl, rfl, q⟩
  | BitXor => cases e; exact op_xor pins s σ H _ _ v u Q I rx ry ⟨i, j, rfl, rfl, q⟩
  | _ => cases e
/-- a text, several times -/
def rRepS : R2 := fun x y H Q => ∃ (a : List Nat) (k : Int), x = .str ⟨a.toArray⟩ ∧ y = .int k ∧ -(2 ^ 63) ≤ k ∧ k < 2 ^ 63 ∧ a.length * k.toNat ≤ sizeLine ∧ Q (.str ⟨(List.replicate k.toNat a).flatten.toArray⟩) H
theorem rep_arr (a : List Nat) : ∀ (n : Nat) (acc : List Nat), (List.replicate n a.toArray).foldl (fun x y => x ++ y) acc.toArray = (acc ++ (List.replicate n a).flatten).toArray
  | 0, acc => by simp
  | n + 1, acc => by
    rw [List.replicate_succ, List.foldl_cons, List.replicate_succ, List.flatten_cons, ← List.append_assoc]
    have e : acc.toArray ++ a.toArray = (acc ++ a).toArray := by simp
    rw [e]
    exact rep_arr a n (acc ++ a)
theorem op_repS : OpR X (binaryOp .Mult) rRepS := by
  intro pins s σ H x y v u Q I rx ry h
  obtain ⟨a, k, rfl, rfl, h1, h2, hz, q⟩ := h
  obtain ⟨t, rfl⟩ := rx
  obtain ⟨t', rfl⟩ := ry
  have sl : (sizeLine : Nat) < 2 ^ 40 := by decide
  have L : (⟨a.toArray⟩ : Str).length = a.length := S_len a
  have done : ∀ (z : Value) (s' : Shared), (∃ t, z = .str ⟨(List.replicate k.toNat a).flatten.toArray⟩ t) → (∃ n, s' = { s with toks := n }) → EP X pins σ Q z s' := fun z s' ⟨t, e1⟩ ⟨n, e2⟩ => by
    subst e1 e2
    exact ⟨.str ⟨(List.replicate k.toNat a).flatten.toArray⟩, H, I.tok _, ⟨t, rfl⟩, q⟩
  refine PySem.P.mul_str ?_ (fun h1 h2 => ?_) (fun h1 h2 => ?_) ?_
  · rw [decide_eq_false (by omega), decide_eq_false (by omega)]
    rfl
  · rw [L]
    intro hb
    have hk : 0 < k := by omega
    have := Int.le_ediv_of_mul_le (a := (a.length : Int)) (b := 2 ^ 63 - 1) hk (by
      have : (a.length : Int) * k = ((a.length * k.toNat : Nat) : Int) := by
        rw [Int.natCast_mul, Int.toNat_of_nonneg (by omega)]
      omega)
    omega
  · rw [L]
    exact decide_eq_false (by omega)
  · split
    · rename_i hk
      have e : k.toNat = 0 := by omega
      refine ⟨by decide, done _ _ ⟨s.toks, ?_⟩ ⟨_, rfl⟩⟩
      rw [e]
      rfl
    · rename_i hk
      split
      · rename_i ho
        refine done _ _ ⟨t, ?_⟩ ⟨s.toks, rfl⟩
        rw [L] at ho
        have ho : k = 1 ∨ a.length = 0 := by simpa using ho
        rcases ho with ho | ho
        · subst ho
          simp
        · have : a = [] := List.length_eq_zero_iff.mp ho
          subst this
          simp
      · refine ⟨?_, done _ _ ⟨s.toks, ?_⟩ ⟨_, rfl⟩⟩
        · have e := rep_arr a k.toNat []
          show (⟨(List.replicate k.toNat a.toArray).foldl (· ++ ·) #[]⟩ : Str).length ≤ sizeLine
          have e' : (List.replicate k.toNat a.toArray).foldl (fun x y => x ++ y) #[] = (List.replicate k.toNat a).flatten.toArray := by simpa using e
          rw [e', S_len]
          simpa [List.length_flatten, Nat.mul_comm] using hz
        · have e := rep_arr a k.toNat []
          have e' : (List.replicate k.toNat a.toArray).foldl (fun x y => x ++ y) #[] = (List.replicate k.toNat a).flatten.toArray := by simpa using e
          rw [← e']
def rBin (op : Operator) : R2 := fun x y H Q => rBinI op x y H Q ∨
  (op = .Add ∧ ∃ i j, x = .str i ∧ y = .str j ∧ i.length + j.length ≤ sizeLine ∧ Q (.str (i ++ j)) H) ∨ (op = .Add ∧ rCat x y H Q) ∨ (op = .Mult ∧ rRep x y H Q) ∨ (op = .Mult ∧ rRepS x y H Q)
theorem op_bin (op : Operator) : OpR X (binaryOp op) (rBin op) := by
  intro pins s σ H x y v u Q I rx ry h
  rcases h with h | ⟨rfl, h⟩ | ⟨rfl, h⟩ | ⟨rfl, h⟩ | ⟨rfl, h⟩
  · exact op_int op pins s σ H x y v u Q I rx ry h
  · exact op_add_str pins s σ H x y v u Q I rx ry h
  · exact op_cat pins s σ H x y v u Q I rx ry h
  · exact op_rep pins s σ H x y v u Q I rx ry h
  · exact op_repS pins s σ H x y v u Q I rx ry h
variable {mg : Str → Option Value}
/-- the operation's value, by what is seen -/
theorem bin_ok {op : Operator} {a b z : D} {x y : V} {m : Bool} {Q : VK} {E : EK} (o : Ok K c H) (sa : See K c.B H a x) (sb : See K c.B H b y) (e : binD op a b = some z)
    (p : Post K mg c H (alloc m z c.st) (RW K) Q E) : rBin op x y H Q := by
  cases a with
  | int i =>
    cases sa
    cases b with
    | int j =>
      cases sb
      obtain ⟨w, e1, rfl⟩ := Option.map_eq_some_iff.mp e
      exact .inl ⟨i, j, w, rfl, rfl, e1, alloc_old o (by intro _ z; cases z) p (.int w)⟩
    | _ => cases e
  | str s =>
    cases sa
    cases b with
    | str t =>
      cases sb
      cases op with
      | Add =>
        obtain ⟨e1, rfl⟩ := if_some e
        refine .inr (.inl ⟨rfl, _, _, rfl, rfl, ?_, ?_⟩)
        · rw [S_len, S_len]
          exact fits_le e1
        · rw [S_app]
          exact alloc_old o (by intro _ z; cases z) p (.str _)
      | _ => cases e
    | int k =>
      cases sb
      cases op with
      | Mult =>
        obtain ⟨e1, rfl⟩ := if_some e
        obtain ⟨e1, e2⟩ := and2 e1
        obtain ⟨e0, e1⟩ := of_decide_eq_true e1
        exact .inr (.inr (.inr (.inr ⟨rfl, _, k, rfl, rfl, e0, e1, fits_le e2, alloc_old o (by intro _ z; cases z) p (.str _)⟩)))
      | _ => cases e
    | _ => cases e
  | list xs =>
    obtain ⟨pa, vs, rfl, ha, da⟩ := sa
    cases b with
    | list ys =>
      obtain ⟨pb, ws, rfl, hb, db⟩ := sb
      cases op with
      | Add =>
        obtain ⟨e1, rfl⟩ := if_some e
        refine .inr (.inr (.inl ⟨rfl, pa, pb, vs, ws, rfl, rfl, ha, hb, ?_, alloc_new o p (da.append db)⟩))
        rw [← da.length, ← db.length]
        exact fits_le e1
      | _ => cases e
    | int k =>
      cases sb
      cases op with
      | Mult =>
        obtain ⟨e1, rfl⟩ := if_some e
        obtain ⟨e1, e2⟩ := and2 e1
        obtain ⟨e0, e1⟩ := of_decide_eq_true e1
        refine .inr (.inr (.inr (.inl ⟨rfl, pa, k, vs, rfl, rfl, ha, e0, e1, ?_, alloc_new o p (da.rep _)⟩)))
        rw [← da.length]
        exact fits_le e2
      | _ => cases e
    | _ => cases e
  | _ => cases b <;> cases e
def rUn (op : UnaryOp) : V → Hp → VK → Prop := fun x H Q => ∃ i, x = .int i ∧ ((op = .USub ∧ Q (.int (-i)) H) ∨ (op = .Invert ∧ Q (.int (Builtin.bitNot i)) H))
theorem op_un (op : UnaryOp) : UnR X (unaryOp op) (rUn op) := by
  intro pins s σ H x v Q I rx h
  obtain ⟨i, rfl, h⟩ := h
  rcases h with ⟨rfl, h⟩ | ⟨rfl, h⟩
  · exact un_neg pins s σ H _ v Q I rx ⟨i, rfl, h⟩
  · exact un_inv pins s σ H _ v Q I rx ⟨i, rfl, h⟩
theorem un_ok {op : UnaryOp} {a z : D} {x : V} {Q : VK} (sa : See K c.B H a x) (e : unD op a = some z) (p : ∀ v, Den K c.B z v → Q v H) : rUn op x H Q := by
  cases a with
  | int i =>
    cases sa
    cases op with
    | USub => cases e; exact ⟨i, rfl, .inl ⟨rfl, p _ (.int _)⟩⟩
    | Invert => cases e; exact ⟨i, rfl, .inr ⟨rfl, p _ (.int _)⟩⟩
    | _ => cases e
  | _ => cases op <;> cases e

mutual
theorem den_dp {B : Hp} (e : Ex B H) : ∀ {x : D} {v : V} {p : PyData}, Den K B x v → x.toPy = some p → Dp K H v p
  | _, _, _, .non, h => by cases h; exact .non
  | _, _, _, .bool b, h => by cases h; exact .bl b
  | _, _, _, .int i, h => by cases h; exact .int i
  | _, _, _, .str s, h => by cases h; exact .str _
  | _, _, _, .list h l, q => by
    obtain ⟨ds, q0, rfl⟩ := Option.map_eq_some_iff.mp q
    exact .lst (SqL.of (e _ _ h)) (dens_dp e l q0)
  | _, _, _, .tup h l, q => by
    obtain ⟨ds, q0, rfl⟩ := Option.map_eq_some_iff.mp q
    exact .tup (SqT.of (e _ _ h)) (dens_dp e l q0)
  | _, _, _, .rol h l, q => by
    obtain ⟨ds, q0, rfl⟩ := Option.map_eq_some_iff.mp q
    exact .lst (e.sql h) (dens_dp e l q0)
theorem dens_dp {B : Hp} (e : Ex B H) : ∀ {xs : List D} {vs : List V} {ps : List PyData}, DenL K B xs vs → D.toPys xs = some ps → DpAll K H vs ps
  | _, _, _, .nil, h => by cases h; exact .nil
  | _, _, _, .cons h l, q => by
    obtain ⟨a, q1, q⟩ := Option.bind_eq_some_iff.mp q
    obtain ⟨r, q2, rfl⟩ := Option.map_eq_some_iff.mp q
    exact .cons (den_dp e h q1) (dens_dp e l q2)
end
theorem see_dp {x : D} {v : V} {p : PyData} (o : Ok K c H) (h : See K c.B H x v) (q : x.toPy = some p) : Dp K H v p := by
  cases x with
  | list xs =>
    obtain ⟨a, vs, rfl, h, l⟩ := h
    obtain ⟨ds, q0, rfl⟩ := Option.map_eq_some_iff.mp q
    exact .lst (SqL.of h) (dens_dp o.sub l q0)
  | _ => exact den_dp o.sub h q
/-- both == : of scalars, of data -/
def rEqX (K : KF) (neg : Bool) : R2 := fun x y H Q => (scal x y = true ∧ Q (.bl (if neg then !decide (x = y) else decide (x = y))) H) ∨
  ∃ d e, Dp K H x d ∧ Dp K H y e ∧ SeqAt.shaped d = true ∧ SeqAt.shaped e = true ∧ Q (.bl (if neg then !PyData.eqv d e else PyData.eqv d e)) H
theorem op_eqX (hu : X.A.units + 64 < cLine) : OpR X (compareOp .Eq) (rEqX X.K false) := by
  intro pins s σ H x y v u Q I rx ry h
  rcases h with h | h
  · exact op_eq pins s σ H x y v u Q I rx ry h
  · exact op_eqD hu pins s σ H x y v u Q I rx ry h
theorem op_neX (hu : X.A.units + 64 < cLine) : OpR X (compareOp .NotEq) (rEqX X.K true) := by
  intro pins s σ H x y v u Q I rx ry h
  rcases h with h | h
  · exact op_ne pins s σ H x y v u Q I rx ry h
  · exact op_neD hu pins s σ H x y v u Q I rx ry h
theorem eq_ok {neg : Bool} {a b : D} {x y : V} {k : Bool} {Q : VK} (o : Ok K c H) (sa : See K c.B H a x) (sb : See K c.B H b y) (e : eqD a b = some k) (q : Q (.bl (if neg then !k else k)) H) : rEqX K neg x y H Q := by
  have deep : eqDeep a b = some k → rEqX K neg x y H Q := fun e => by
    obtain ⟨d, e1, e⟩ := Option.bind_eq_some_iff.mp e
    obtain ⟨d', e2, e⟩ := Option.bind_eq_some_iff.mp e
    obtain ⟨e3, rfl⟩ := if_some e
    obtain ⟨e3, e4⟩ := and2 e3
    exact .inr ⟨d, d', see_dp o sa e1, see_dp o sb e2, e3, e4, q⟩
  cases a with
  | int i =>
    cases sa
    cases b with
    | int j =>
      cases sb
      cases e
      refine .inl ⟨rfl, ?_⟩
      have z : decide (V.int i = V.int j) = decide (i = j) := by
        rw [dec_int, Bool.beq_eq_decide_eq]
      rw [z]
      exact q
    | _ => exact deep e
  | str i =>
    cases sa
    cases b with
    | str j =>
      cases sb
      cases e
      refine .inl ⟨rfl, ?_⟩
      have z : decide (V.str ⟨i.toArray⟩ = V.str ⟨j.toArray⟩) = decide (i = j) := by
        by_cases h : i = j
        · subst h; simp
        · rw [decide_eq_false h, decide_eq_false (fun z => h (S_inj (V.str.inj z)))]
      rw [z]
      exact q
    | _ => exact deep e
  | bool i =>
    cases sa
    cases b with
    | bool j =>
      cases sb
      cases e
      refine .inl ⟨rfl, ?_⟩
      have z : decide (V.bl i = V.bl j) = decide (i = j) := by
        by_cases h : i = j
        · subst h; simp
        · rw [decide_eq_false h, decide_eq_false (fun z => h (V.bl.inj z))]
      rw [z]
      exact q
    | _ => exact deep e
  | non =>
    cases sa
    cases b with
    | non =>
      cases sb
      cases e
      exact .inl ⟨rfl, by rw [decide_eq_true rfl]; exact q⟩
    | _ => exact deep e
  | _ => exact deep (by cases b <;> exact e)
/-- in, not in: a sign in a text; flat data in a list, a tuple -/
def rInDp (K : KF) (neg : Bool) : R2 := fun x y H Q => ∃ d ds, Dp K H x d ∧ (Dp K H y (.list ds) ∨ Dp K H y (.tuple ds)) ∧ d.canLay0 = true ∧ PyData.canLayAll0 ds = true ∧ d.depth ≤ 60 ∧ Q (.bl (if neg then !(ds.any fun y => PyData.eqv y d) else ds.any fun y => PyData.eqv y d)) H
def rInX (K : KF) (neg : Bool) : R2 := fun x y H Q => (∃ (c : Nat) (z : Str), x = .str ⟨#[c]⟩ ∧ y = .str z ∧ Q (.bl (if neg then !decide (c ∈ z.cps.toList) else decide (c ∈ z.cps.toList))) H) ∨ rIn K neg x y H Q ∨ rInDp K neg x y H Q
theorem op_inX (hu : X.A.units + 64 < cLine) : OpR X (compareOp .In) (rInX X.K false) := by
  intro pins s σ H x y v u Q I rx ry h
  rcases h with h | h | ⟨d, ds, hx, hy, c1, c2, c3, q⟩
  · exact op_in_sign pins s σ H x y v u Q I rx ry h
  · exact op_in_seq pins s σ H x y v u Q I rx ry h
  · obtain ⟨as, r1⟩ := Dp.reads I d x v hx rx
    have hl : X.A.units + 1 + min (PyData.depthAll ds) d.depth < cLine := Nat.lt_of_le_of_lt (by have := Nat.min_le_right (PyData.depthAll ds) d.depth; omega) hu
    rcases hy with hy | hy
    · obtain ⟨bs, r2⟩ := Dp.reads I _ y u hy ry
      exact SeqAt.in_list_reads r2 r1 c2 c1 hl ⟨.bl _, H, I, rfl, q⟩
    · obtain ⟨bs, r2⟩ := Dp.reads I _ y u hy ry
      exact SeqAt.in_tuple_reads r2 r1 c2 c1 hl ⟨.bl _, H, I, rfl, q⟩
theorem op_niX (hu : X.A.units + 64 < cLine) : OpR X (compareOp .NotIn) (rInX X.K true) := by
  intro pins s σ H x y v u Q I rx ry h
  rcases h with h | h | ⟨d, ds, hx, hy, c1, c2, c3, q⟩
  · exact op_notIn_sign pins s σ H x y v u Q I rx ry h
  · exact op_notIn_seq pins s σ H x y v u Q I rx ry h
  · obtain ⟨as, r1⟩ := Dp.reads I d x v hx rx
    have hl : X.A.units + 1 + min (PyData.depthAll ds) d.depth < cLine := Nat.lt_of_le_of_lt (by have := Nat.min_le_right (PyData.depthAll ds) d.depth; omega) hu
    rcases hy with hy | hy
    · obtain ⟨bs, r2⟩ := Dp.reads I _ y u hy ry
      exact SeqAt.notIn_list_reads r2 r1 c2 c1 hl ⟨.bl _, H, I, rfl, q⟩
    · obtain ⟨bs, r2⟩ := Dp.reads I _ y u hy ry
      exact SeqAt.notIn_tuple_reads r2 r1 c2 c1 hl ⟨.bl _, H, I, rfl, q⟩
theorem flat_of {B : Hp} {a : D} {x : V} (s : Den K B a x) (h : a.flat = true) : flatV x = true := by
  cases s <;> first | rfl | cases h
theorem flats_of {B : Hp} : ∀ {xs : List D} {vs : List V}, DenL K B xs vs → xs.all D.flat = true → vs.all flatV = true
  | _, _, .nil, _ => rfl
  | _, _, .cons h l, q => by
    rw [List.all_cons] at q ⊢
    obtain ⟨q1, q2⟩ := and2 q
    rw [flat_of h q1, flats_of l q2]
    rfl
theorem eqF_of {B : Hp} {a b : D} {x y : V} (sa : Den K B a x) (sb : Den K B b y) (fa : a.flat = true) (fb : b.flat = true) : eqV x y = eqF a b := by
  cases sa with
  | non => cases sb <;> first | rfl | cases fb
  | bool _ => cases sb <;> first | rfl | cases fb
  | int _ => cases sb <;> first | rfl | cases fb
  | str i =>
    cases sb with
    | str j =>
      show (Str.mk i.toArray == Str.mk j.toArray) = decide (i = j)
      by_cases h : i = j
      · subst h; simp
      · rw [decide_eq_false h]
        exact beq_eq_false_iff_ne.mpr fun z => h (S_inj z)
    | _ => first | rfl | cases fb
  | _ => cases fa
theorem inF_of {B : Hp} {a : D} {x : V} (sa : Den K B a x) (fa : a.flat = true) : ∀ {xs : List D} {vs : List V}, DenL K B xs vs → xs.all D.flat = true → inV x vs = xs.any fun z => eqF z a
  | _, _, .nil, _ => rfl
  | _, _, .cons h l, q => by
    rw [List.all_cons] at q
    obtain ⟨q1, q2⟩ := and2 q
    show (eqV _ x || inV x _) = (eqF _ a || _)
    rw [eqF_of h sa q1 fa, inF_of sa fa l q2]
theorem see_flat {a : D} {x : V} (s : See K c.B H a x) (h : a.flat = true) : Den K c.B a x := by
  cases a <;> first | exact s | cases h
theorem in_ok {neg : Bool} {a b : D} {x y : V} {k : Bool} {Q : VK} (o : Ok K c H) (sa : See K c.B H a x) (sb : See K c.B H b y) (e : inD a b = some k) (q : Q (.bl (if neg then !k else k)) H) : rInX K neg x y H Q := by
  have seq : ∀ {ys : List D} {p : Addr} {vs : List V}, y = .ref p → (SqL K H p vs ∨ SqT K H p vs) → DenL K c.B ys vs → (if a.flat && ys.all D.flat then some (ys.any fun z => eqF z a) else inDeep a ys) = some k → rInX K neg x y H Q := fun {ys p vs} ey hs l e => by
    by_cases hfl : (a.flat && ys.all D.flat) = true
    · rw [if_pos hfl] at e
      cases e
      obtain ⟨e1, e2⟩ := and2 hfl
      have sa' := see_flat sa e1
      refine .inr (.inl ⟨p, vs, ey, hs, flat_of sa' e1, flats_of l e2, ?_⟩)
      rw [inF_of sa' e1 l e2]
      exact q
    · rw [if_neg hfl] at e
      obtain ⟨d, q1, e⟩ := Option.bind_eq_some_iff.mp e
      obtain ⟨ds, q2, e⟩ := Option.bind_eq_some_iff.mp e
      obtain ⟨e1, rfl⟩ := if_some e
      obtain ⟨e1, e4⟩ := and2 e1
      obtain ⟨e2, e3⟩ := and2 e1
      subst ey
      refine .inr (.inr ⟨d, ds, see_dp o sa q1, ?_, e2, e3, of_decide_eq_true e4, q⟩)
      rcases hs with hs | hs
      · exact .inl (.lst hs (dens_dp o.sub l q2))
      · exact .inr (.tup hs (dens_dp o.sub l q2))
  have str1 : ∀ {i z : List Nat}, a = .str i → b = .str z → rInX K neg x y H Q := fun {i z} ea eb => by
    subst ea
    subst eb
    cases sa
    cases sb
    match i, e with
    | [ch], e =>
      cases e
      exact .inl ⟨ch, _, rfl, rfl, q⟩
    | [], e => cases e
    | _ :: _ :: _, e => cases e
  cases b with
  | str z =>
    cases a with
    | str i => exact str1 rfl rfl
    | _ => cases e
  | list ys =>
    obtain ⟨p, vs, rfl, hp, l⟩ := sb
    refine seq rfl (.inl (SqL.of hp)) l ?_
    cases a with
    | str i => match i, e with
      | [], e => exact e
      | [_], e => exact e
      | _ :: _ :: _, e => exact e
    | _ => exact e
  | tup ys =>
    cases sb with
    | tup hp l =>
      refine seq rfl (.inr (SqT.of (o.sub _ _ hp))) l ?_
      cases a with
      | str i => match i, e with
        | [], e => exact e
        | [_], e => exact e
        | _ :: _ :: _, e => exact e
      | _ => exact e
  | rol ys =>
    cases sb with
    | rol hp l =>
      refine seq rfl (.inl (o.sub.sql hp)) l ?_
      cases a with
      | str i => match i, e with
        | [], e => exact e
        | [_], e => exact e
        | _ :: _ :: _, e => exact e
      | _ => exact e
  | _ => cases a <;> first | cases e | (rename_i i; match i, e with
      | [], e => cases e
      | [_], e => cases e
      | _ :: _ :: _, e => cases e)
def rOrd (op : CmpOp) : R2 := fun x y H Q => ∃ i j, x = .int i ∧ y = .int j ∧ ((op = .Lt ∧ Q (.bl (decide (i < j))) H) ∨ (op = .LtE ∧ Q (.bl (decide (i ≤ j))) H) ∨ (op = .Gt ∧ Q (.bl (decide (j < i))) H) ∨ (op = .GtE ∧ Q (.bl (decide (j ≤ i))) H))
/-- a comparison's value, by data -/
def rCmp (K : KF) (op : CmpOp) : R2 := fun x y H Q => match op with
  | .Eq => rEqX K false x y H Q
  | .NotEq => rEqX K true x y H Q
  | .In => rInX K false x y H Q
  | .NotIn => rInX K true x y H Q
  | .Is => y = .non ∧ Q (.bl (decide (x = .non))) H
  | .IsNot => y = .non ∧ Q (.bl (!decide (x = .non))) H
  | op => rOrd op x y H Q
theorem op_cmp (hu : X.A.units + 64 < cLine) : ∀ op : CmpOp, OpR X (compareOp op) (rCmp X.K op) := by
  intro op pins s σ H x y v u Q I rx ry h
  cases op with
  | Eq => exact op_eqX hu pins s σ H x y v u Q I rx ry h
  | NotEq => exact op_neX hu pins s σ H x y v u Q I rx ry h
  | In => exact op_inX hu pins s σ H x y v u Q I rx ry h
  | NotIn => exact op_niX hu pins s σ H x y v u Q I rx ry h
  | Is => exact op_isN pins s σ H x y v u Q I rx ry h
  | IsNot => exact op_notN pins s σ H x y v u Q I rx ry h
  | Lt =>
    obtain ⟨i, j, rfl, rfl, h⟩ := h
    rcases h with ⟨_, h⟩ | ⟨e, _⟩ | ⟨e, _⟩ | ⟨e, _⟩
    · exact op_lt pins s σ H _ _ v u Q I rx ry ⟨i, j, rfl, rfl, h⟩
    all_goals cases e
  | LtE =>
    obtain ⟨i, j, rfl, rfl, h⟩ := h
    rcases h with ⟨e, _⟩ | ⟨_, h⟩ | ⟨e, _⟩ | ⟨e, _⟩
    · cases e
    · exact op_le pins s σ H _ _ v u Q I rx ry ⟨i, j, rfl, rfl, h⟩
    all_goals cases e
  | Gt =>
    obtain ⟨i, j, rfl, rfl, h⟩ := h
    rcases h with ⟨e, _⟩ | ⟨e, _⟩ | ⟨_, h⟩ | ⟨e, _⟩
    · cases e
    · cases e
    · exact op_gt pins s σ H _ _ v u Q I rx ry ⟨i, j, rfl, rfl, h⟩
    · cases e
  | GtE =>
    obtain ⟨i, j, rfl, rfl, h⟩ := h
    rcases h with ⟨e, _⟩ | ⟨e, _⟩ | ⟨e, _⟩ | ⟨_, h⟩
    · cases e
    · cases e
    · cases e
    · exact op_ge pins s σ H _ _ v u Q I rx ry ⟨i, j, rfl, rfl, h⟩
theorem non_iff {a : D} {x : V} (s : See K c.B H a x) : decide (x = V.non) = isNon a := by
  cases a with
  | non => cases s; rfl
  | list xs =>
    obtain ⟨p, vs, rfl, _⟩ := s
    exact decide_eq_false fun z => nomatch z
  | _ => cases s <;> exact decide_eq_false fun z => nomatch z
theorem cmp_ok {op : CmpOp} {a b : D} {x y : V} {k : Bool} {Q : VK} (o : Ok K c H) (sa : See K c.B H a x) (sb : See K c.B H b y) (e : cmpD op a b = some k) (q : Q (.bl k) H) : rCmp K op x y H Q := by
  have ord : ∀ {f : Int → Int → Bool}, ordD f a b = some k → ∃ i j, x = .int i ∧ y = .int j ∧ Q (.bl (f i j)) H := fun {f} e => by
    cases a with
    | int i =>
      cases b with
      | int j =>
        cases sa
        cases sb
        cases e
        exact ⟨i, j, rfl, rfl, q⟩
      | _ => cases e
    | _ => cases e
  cases op with
  | Eq => exact eq_ok o sa sb e q
  | NotEq =>
    obtain ⟨k', e0, rfl⟩ := Option.map_eq_some_iff.mp e
    exact eq_ok o sa sb e0 q
  | In => exact in_ok o sa sb e q
  | NotIn =>
    obtain ⟨k', e0, rfl⟩ := Option.map_eq_some_iff.mp e
    exact in_ok o sa sb e0 q
  | Is =>
    cases b with
    | non =>
      cases sb
      cases e
      exact ⟨rfl, by rw [non_iff sa]; exact q⟩
    | _ => cases e
  | IsNot =>
    cases b with
    | non =>
      cases sb
      cases e
      exact ⟨rfl, by rw [non_iff sa]; exact q⟩
    | _ => cases e
  | Lt => obtain ⟨i, j, e1, e2, q⟩ := ord (f := fun i j => decide (i < j)) e; exact ⟨i, j, e1, e2, .inl ⟨rfl, q⟩⟩
  | LtE => obtain ⟨i, j, e1, e2, q⟩ := ord (f := fun i j => decide (i ≤ j)) e; exact ⟨i, j, e1, e2, .inr (.inl ⟨rfl, q⟩)⟩
  | Gt => obtain ⟨i, j, e1, e2, q⟩ := ord (f := fun i j => decide (j < i)) e; exact ⟨i, j, e1, e2, .inr (.inr (.inl ⟨rfl, q⟩))⟩
  | GtE => obtain ⟨i, j, e1, e2, q⟩ := ord (f := fun i j => decide (j ≤ i)) e; exact ⟨i, j, e1, e2, .inr (.inr (.inr ⟨rfl, q⟩))⟩
end
end Cr

namespace Cr
open PySem L2
section
open Builtin Builtin.Str StrLaws
theorem occ_full (s sub : Str) (hi : Nat) : ∀ (l : List Nat) (a f : Nat), (forIn l ((#[a] : Array Nat), f) (occBody s sub hi 1)).run.fst = #[a]
  | [], a, f => rfl
  | b :: l, a, f => by
    rw [List.forIn_cons]
    unfold occBody
    rw [if_neg (by rintro ⟨⟨⟨h, _⟩, _⟩, _⟩; simp at h)]
    exact occ_full s sub hi l a f
theorem occ_find (s sub : Str) (hi : Nat) : ∀ (l : List Nat) (free : Nat), (∀ i ∈ l, free ≤ i) →
    (forIn l ((#[] : Array Nat), free) (occBody s sub hi 1)).run.fst.toList = (l.find? fun i => decide (i + sub.length ≤ hi ∧ subAt s sub i = true)).toList
  | [], free, _ => rfl
  | a :: l, free, hf => by
    rw [List.forIn_cons]
    unfold occBody
    have ha : free ≤ a := hf a (List.mem_cons_self ..)
    by_cases hc : a + sub.length ≤ hi ∧ subAt s sub a = true
    · have c1 : (((#[] : Array Nat), free).fst.size < 1 ∧ ((#[] : Array Nat), free).snd ≤ a) ∧ a + sub.length ≤ hi := ⟨⟨by simp, ha⟩, hc.1⟩
      rw [if_pos ⟨c1, hc.2⟩, List.find?_cons_of_pos (by simpa using hc)]
      have q := occ_full s sub hi l a (a + sub.length)
      show (forIn l ((#[] : Array Nat).push a, a + sub.length) (occBody s sub hi 1)).run.fst.toList = [a]
      have e : ((#[] : Array Nat).push a) = #[a] := rfl
      rw [e, q]
    · have c2 : ¬ (((((#[] : Array Nat), free).fst.size < 1 ∧ ((#[] : Array Nat), free).snd ≤ a) ∧ a + sub.length ≤ hi) ∧ subAt s sub a = true) := fun h => hc ⟨h.1.2, h.2⟩
      rw [if_neg c2, List.find?_cons_of_neg (by simpa using hc)]
      exact occ_find s sub hi l free (fun i hi' => hf i (List.mem_cons_of_mem _ hi'))
theorem find_first (c : Nat) : ∀ (s : List Nat) (k : Nat) (p : Nat → Bool), (∀ i, i < s.length + 1 → p (k + i) = decide (s[i]? = some c)) →
    (List.range' k (s.length + 1)).find? p = if c ∈ s then some (k + s.idxOf c) else none
  | [], k, p, h => by
    have h0 := h 0 (by simp)
    have : p k = false := by simpa using h0
    simp [List.range'_succ, this]
  | x :: s, k, p, h => by
    rw [List.length_cons, List.range'_succ]
    have h0 := h 0 (by simp)
    by_cases e : x = c
    · subst e
      have : p k = true := by simpa using h0
      rw [List.find?_cons_of_pos this]
      simp
    · have : p k = false := by simpa [e] using h0
      rw [List.find?_cons_of_neg (by simp [this])]
      have ih := find_first c s (k + 1) p (fun i hi => by
        have q := h (i + 1) (by simp; omega)
        rw [show k + 1 + i = k + (i + 1) by omega, q]
        simp)
      rw [ih]
      have e' : ¬ c = x := fun z => e z.symm
      by_cases hm : c ∈ s
      · rw [if_pos hm, if_pos (List.mem_cons_of_mem _ hm), List.idxOf_cons]
        have : (x == c) = false := by simpa using e
        rw [this]
        simp
        omega
      · rw [if_neg hm, if_neg (by simp [hm, e'])]
theorem occ_sign (s : List Nat) (c : Nat) : occurrences ⟨s.toArray⟩ ⟨[c].toArray⟩ 0 (⟨s.toArray⟩ : Str).length 1 = if c ∈ s then [s.idxOf c] else [] := by
  rw [occ_eq, occ_find _ _ _ _ 0 (fun _ _ => Nat.zero_le _)]
  have e1 : (⟨s.toArray⟩ : Str).length = s.length := S_len s
  rw [e1, Nat.sub_zero, find_first c s 0]
  · split
    · simp
    · rfl
  · intro i hi
    have q := subAt_one ⟨s.toArray⟩ c i
    rw [e1] at q
    have e2 : (⟨s.toArray⟩ : Str).cps.toList = s := rfl
    rw [e2] at q
    rw [Nat.zero_add]
    exact decide_eq_decide.mpr q
end
section
variable {X : Cx} {K : KF} {c : Cfg} {H : Hp} {mg : Str → Option Value}
theorem atI_len {α β : Type} {xs : List α} {ys : List β} (h : xs.length = ys.length) (i : Int) : ixN xs.length i = ixN ys.length i := by rw [h]
theorem atI_den {B : Hp} {xs : List D} {vs : List V} {i : Int} {z : D} (l : DenL K B xs vs) (e : atI xs i = some z) : ∃ v, atI vs i = some v ∧ Den K B z v := by
  obtain ⟨j, e1, e2⟩ := Option.bind_eq_some_iff.mp e
  obtain ⟨v, h1, h2⟩ := l.get e2
  refine ⟨v, ?_, h2⟩
  unfold atI
  rw [← l.length, e1]
  exact h1
theorem idx_ok {a b z : D} {x y : V} {Q : VK} (o : Ok K c H) (sa : See K c.B H a x) (sb : See K c.B H b y) (e : idxD a b = some z) (p : ∀ v, Den K c.B z v → Q v H) : rIx K x y H Q := by
  cases b with
  | int i =>
    cases sb
    cases a with
    | list xs =>
      obtain ⟨pa, vs, rfl, h, l⟩ := sa
      obtain ⟨v, h1, h2⟩ := atI_den l e
      exact .inl ⟨pa, vs, i, v, rfl, rfl, SqL.of h, h1, p v h2⟩
    | tup xs =>
      cases sa with
      | tup h l =>
        obtain ⟨v, h1, h2⟩ := atI_den l e
        exact .inr (.inl ⟨_, _, i, v, rfl, rfl, SqT.of (o.sub _ _ h), h1, p v h2⟩)
    | rol xs =>
      cases sa with
      | rol h l =>
        obtain ⟨v, h1, h2⟩ := atI_den l e
        exact .inl ⟨_, _, i, v, rfl, rfl, o.sub.sql h, h1, p v h2⟩
    | str s =>
      cases sa
      have e : (if fits s.length then (atI s i).map fun c => D.str [c] else none) = some z := e
      by_cases f : fits s.length = true
      · rw [if_pos f] at e
        obtain ⟨ch, e1, rfl⟩ := Option.map_eq_some_iff.mp e
        exact .inr (.inr ⟨_, i, ch, rfl, rfl, by rw [S_len]; exact fits_le f, e1, p _ (.str [ch])⟩)
      · rw [if_neg f] at e
        cases e
    | _ => cases e
  | _ => cases a <;> cases e
def rSl (K : KF) : V → Option Int → Option Int → Hp → VK → Prop := fun x lo hi H Q => rSlL K x lo hi H Q ∨ rSlS x lo hi H Q
theorem sl_ok : SlR X (rSl X.K) := SlR.or sl_list sl_str
theorem cut_den {B : Hp} {xs : List D} {vs : List V} (l : DenL K B xs vs) (lo hi : Option Int) : DenL K B (cut xs lo hi) (cutV vs lo hi) := by
  unfold cut cutV
  rw [← l.length]
  exact (l.drop _).take _
theorem slice_ok {m : Bool} {a z : D} {x : V} {lo hi : Option Int} {Q : VK} {E : EK} (o : Ok K c H) (sa : See K c.B H a x) (e : sliceD a lo hi = some z) (p : Post K mg c H (alloc m z c.st) (RW K) Q E) : rSl K x lo hi H Q := by
  cases a with
  | list xs =>
    obtain ⟨pa, vs, rfl, h, l⟩ := sa
    cases e
    exact .inl ⟨pa, vs, rfl, SqL.of h, alloc_new o p (cut_den l lo hi)⟩
  | rol xs =>
    cases sa with
    | rol h l =>
      cases e
      exact .inl ⟨_, _, rfl, o.sub.sql h, alloc_new o p (cut_den l lo hi)⟩
  | str s =>
    cases sa
    obtain ⟨f, rfl⟩ := if_some e
    refine .inr ⟨_, rfl, by rw [S_len]; exact fits_le f, ?_⟩
    have ez : cutS ⟨s.toArray⟩ lo hi = ⟨(cut s lo hi).toArray⟩ := by
      unfold cutS cut
      rw [S_len]
    rw [ez]
    exact alloc_old o (by intro _ z; cases z) p (.str _)
  | _ => cases e
theorem truth_ok {a : D} {x : V} {k : Bool} (o : Ok K c H) (s : See K c.B H a x) (e : truth a = some k) : TruV K x H k := by
  cases a with
  | list xs =>
    obtain ⟨pa, vs, rfl, h, l⟩ := s
    cases e
    exact .inl ⟨vs, SqL.of h, by cases l <;> rfl⟩
  | tup xs =>
    cases s with
    | tup h l =>
      cases e
      exact .inr (.inl ⟨_, SqT.of (o.sub _ _ h), by cases l <;> rfl⟩)
  | rol xs =>
    cases s with
    | rol h l =>
      cases e
      exact .inl ⟨_, o.sub.sql h, by cases l <;> rfl⟩
  | str t =>
    cases s
    obtain ⟨f, rfl⟩ := if_some e
    refine ⟨by rw [S_len]; exact fits_le f, ?_⟩
    rw [S_len]
    cases t <;> rfl
  | non => cases s; cases e; rfl
  | bool b => cases s; cases e; rfl
  | int i => cases s; cases e; rfl

theorem boolsL_of {B : Hp} : ∀ {xs : List D} {vs : List V} {bs : List Bool}, DenL K B xs vs → boolsL xs = some bs → vs = bs.map V.bl
  | _, _, _, .nil, e => by cases e; rfl
  | _, _, _, .cons h l, e => by
    cases h <;> first
      | cases e
      | (obtain ⟨r, e2, e3⟩ := Option.map_eq_some_iff.mp e
         subst e3
         rw [boolsL_of l e2]
         rfl)
theorem intsL_of {B : Hp} : ∀ {xs : List D} {vs : List V} {bs : List Int}, DenL K B xs vs → intsL xs = some bs → vs = bs.map V.int
  | _, _, _, .nil, e => by cases e; rfl
  | _, _, _, .cons h l, e => by
    cases h <;> first
      | cases e
      | (obtain ⟨r, e2, e3⟩ := Option.map_eq_some_iff.mp e
         subst e3
         rw [intsL_of l e2]
         rfl)
theorem strsL_of {B : Hp} : ∀ {xs : List D} {vs : List V} {bs : List (List Nat)}, DenL K B xs vs → strsL xs = some bs → vs = (bs.map fun s => (⟨s.toArray⟩ : Str)).map V.str
  | _, _, _, .nil, e => by cases e; rfl
  | _, _, _, .cons h l, e => by
    cases h <;> first
      | cases e
      | (obtain ⟨r, e2, e3⟩ := Option.map_eq_some_iff.mp e
         subst e3
         rw [strsL_of l e2]
         rfl)
theorem items_of {a : D} {x : V} {xs : List D} (o : Ok K c H) (s : See K c.B H a x) (e : items a = some xs) : ∃ p vs, x = .ref p ∧ (SqL K H p vs ∨ SqT K H p vs) ∧ DenL K c.B xs vs := by
  cases a with
  | list ys =>
    obtain ⟨pa, vs, rfl, h, l⟩ := s
    cases e
    exact ⟨pa, vs, rfl, .inl (SqL.of h), l⟩
  | tup ys =>
    cases s with
    | tup h l =>
      cases e
      exact ⟨_, _, rfl, .inr (SqT.of (o.sub _ _ h)), l⟩
  | rol ys =>
    cases s with
    | rol h l =>
      cases e
      exact ⟨_, _, rfl, .inl (o.sub.sql h), l⟩
  | _ => cases e
def idBi : Bi → Value
  | .len => .builtin "len" | .all => .builtin "all" | .any => .builtin "any" | .int => .type "int" | .str => .type "str" | .list => .type "list"
  | .abs => .builtin "abs" | .max => .builtin "max" | .min => .builtin "min" | .sum => .builtin "sum"
def nmBi : Bi → Str
  | .len => "len" | .all => "all" | .any => "any" | .int => "int" | .str => "str" | .list => "list" | .abs => "abs" | .max => "max" | .min => "min" | .sum => "sum"
/-- a builtin's call, by what is seen of its arguments -/
theorem bi_ok {f : Bi} {as : List D} {xs : List V} {z : D} {m : Bool} {Q : VK} {E : EK} (hc : X.calm = true) (eK : X.K = K) (o : Ok K c H) (s : SeeL K c.B H as xs) (e : biD f as = some z) (p : Post K mg c H (alloc m z c.st) (RW K) Q E) :
    ∀ (pins : List (Addr × Obj)) (s : Shared) (σ : L2.St) (us : List Value), Inv X pins σ H s → Vals xs us → wpAny (model X.prog X.w) X.A (call (idBi f) us) (EP X pins σ Q) X.xe s := by
  subst eK
  intro pins sh σ us I r
  cases s with
  | nil => cases f <;> cases e
  | @cons a as x xs s1 s2 =>
    cases s2 with
    | nil =>
      cases f with
      | len =>
        obtain ⟨n, e0, rfl⟩ := Option.map_eq_some_iff.mp (show (lenD a).map (fun (n : Nat) => D.int (n : Int)) = some z from by cases a <;> exact e)
        have q : Q (.int n) H := alloc_old o (by intro _ z; cases z) p (.int _)
        cases a with
        | str t =>
          cases s1
          obtain ⟨f, rfl⟩ := if_some e0
          exact call_len_str pins sh σ H _ us Q I r ⟨_, rfl, by rw [S_len]; exact fits_le f, by rw [S_len]; exact q⟩
        | list ys =>
          obtain ⟨pa, vs, rfl, h, l⟩ := s1
          cases e0
          rw [l.length] at q
          exact call_len_seq pins sh σ H _ us Q I r ⟨pa, vs, rfl, .inl (SqL.of h), q⟩
        | tup ys =>
          cases s1 with
          | tup h l =>
            cases e0
            rw [l.length] at q
            exact call_len_seq pins sh σ H _ us Q I r ⟨_, _, rfl, .inr (SqT.of (o.sub _ _ h)), q⟩
        | rol ys =>
          cases s1 with
          | rol h l =>
            cases e0
            rw [l.length] at q
            exact call_len_seq pins sh σ H _ us Q I r ⟨_, _, rfl, .inl (o.sub.sql h), q⟩
        | _ => cases e0
      | all =>
        cases a with
        | list ys =>
          obtain ⟨pa, vs, rfl, h, l⟩ := s1
          obtain ⟨bs, e0, rfl⟩ := Option.map_eq_some_iff.mp e
          have ev := boolsL_of l e0
          subst ev
          exact cr_all hc pins sh σ H _ us Q I r ⟨pa, bs, rfl, SqL.of h, alloc_old o (by intro _ z; cases z) p (.bool _)⟩
        | _ => cases e
      | any =>
        cases a with
        | list ys =>
          obtain ⟨pa, vs, rfl, h, l⟩ := s1
          obtain ⟨bs, e0, rfl⟩ := Option.map_eq_some_iff.mp e
          have ev := boolsL_of l e0
          subst ev
          exact cr_any hc pins sh σ H _ us Q I r ⟨pa, bs, rfl, SqL.of h, alloc_old o (by intro _ z; cases z) p (.bool _)⟩
        | _ => cases e
      | int =>
        cases a with
        | int i =>
          cases s1
          cases e
          exact call_int1 pins sh σ H _ us Q I r (.inl ⟨i, rfl, alloc_old o (by intro _ z; cases z) p (.int _)⟩)
        | bool k =>
          cases s1
          cases e
          exact call_int1 pins sh σ H _ us Q I r (.inr ⟨k, rfl, alloc_old o (by intro _ z; cases z) p (.int _)⟩)
        | str t =>
          cases s1
          have e : (if decide (t.length ≤ 640) then (intText? ⟨t.toArray⟩).map D.int else none) = some z := e
          by_cases f : t.length ≤ 640
          · rw [decide_eq_true f, if_pos rfl] at e
            obtain ⟨n, e0, rfl⟩ := Option.map_eq_some_iff.mp e
            exact call_int_str pins sh σ H _ us Q I r ⟨_, n, rfl, e0, by rw [S_len]; exact f, alloc_old o (by intro _ z; cases z) p (.int _)⟩
          · rw [decide_eq_false f] at e
            cases e
        | _ => cases e
      | str =>
        cases a with
        | int i =>
          cases s1
          obtain ⟨t, e0, rfl⟩ := Option.map_eq_some_iff.mp e
          obtain ⟨f, rfl⟩ := if_some e0
          have q := alloc_old (v := V.str ⟨(intStr i).toArray⟩) o (by intro _ z; cases z) p (.str _)
          exact call_str_int pins sh σ H _ us Q I r ⟨i, rfl, of_decide_eq_true f, by
            have ez : (⟨(intStr i).toArray⟩ : Str) = Str.ofString (toString i) := S_of _
            rw [ez] at q
            exact q⟩
        | _ => cases e
      | list =>
        obtain ⟨ys, e0, rfl⟩ := Option.map_eq_some_iff.mp (show (items a).map D.list = some z from by cases a <;> exact e)
        obtain ⟨pa, vs, rfl, h, l⟩ := items_of o s1 e0
        exact call_list_of pins sh σ H _ us Q I r ⟨pa, vs, rfl, h, alloc_new o p l⟩
      | abs =>
        cases a with
        | int i =>
          cases s1
          cases e
          exact call_abs pins sh σ H _ us Q I r ⟨i, rfl, alloc_old o (by intro _ z; cases z) p (.int _)⟩
        | _ => cases e
      | sum =>
        cases a with
        | list ys =>
          obtain ⟨pa, vs, rfl, h, l⟩ := s1
          obtain ⟨bs, e0, rfl⟩ := Option.map_eq_some_iff.mp e
          have ev := intsL_of l e0
          subst ev
          exact cr_sum hc pins sh σ H _ us Q I r ⟨pa, bs, rfl, SqL.of h, alloc_old o (by intro _ z; cases z) p (.int _)⟩
        | _ => cases e
      | _ => cases a <;> cases e
    | @cons b bs y ys s2 s3 =>
      cases s3 with
      | nil =>
        cases f with
        | max =>
          cases a with
          | int i =>
            cases b with
            | int j =>
              cases s1
              cases s2
              cases e
              exact call_max2 hc pins sh σ H _ us Q I r ⟨i, j, rfl, alloc_old o (by intro _ z; cases z) p (.int _)⟩
            | _ => cases e
          | _ => cases b <;> cases e
        | min =>
          cases a with
          | int i =>
            cases b with
            | int j =>
              cases s1
              cases s2
              cases e
              exact call_min2 hc pins sh σ H _ us Q I r ⟨i, j, rfl, alloc_old o (by intro _ z; cases z) p (.int _)⟩
            | _ => cases e
          | _ => cases b <;> cases e
        | _ => cases a <;> cases e
      | cons _ _ => cases f <;> cases a <;> first | cases e | (cases b <;> cases e)

def nmMt : Mt → Str
  | .join => "join" | .split => "split" | .index => "index" | .find => "find" | .startswith => "startswith"
def idMt : Mt → String
  | .join => "str.join" | .split => "str.split" | .index => "str.index" | .find => "str.find" | .startswith => "str.startswith"
theorem len_sum : ∀ ps : List (List Nat), ((ps.map fun s => (⟨s.toArray⟩ : Str)).map (·.length)).sum = (ps.map (·.length)).sum
  | [] => rfl
  | p :: ps => by
    rw [List.map_cons, List.map_cons, List.map_cons, List.sum_cons, List.sum_cons, S_len, len_sum ps]
theorem join_S (sep : List Nat) (ps : List (List Nat)) : PySem.Txt.join ⟨sep.toArray⟩ (ps.map fun s => (⟨s.toArray⟩ : Str)) = ⟨(joinC sep ps).toArray⟩ := by
  rw [TL.join_eq]
  apply TL.ext_tl
  rw [TL.tl_join]
  show TL.joinL sep _ = TL.joinL sep ps
  rw [List.map_map]
  congr 1
  exact (List.map_congr_left fun x _ => rfl).trans (List.map_id _)
theorem split_S {s sep : List Nat} (h1 : sep ≠ []) (h2 : sep.all (· < 256) = true) : PySem.Txt.split ⟨s.toArray⟩ ⟨sep.toArray⟩ = (splitC sep s).map fun t => (⟨t.toArray⟩ : Str) := by
  apply TL.map_tl_inj
  rw [TL.split_spl _ _ h1 (TL.kind_ok (by simpa using h2)), List.map_map]
  symm
  exact (List.map_congr_left fun x _ => rfl).trans (List.map_id _)
theorem splitC_len (sep : List Nat) : ∀ (k : Nat) (acc s : List Nat), (TL.spl sep k acc s).length ≤ s.length + 1
  | k, acc, [] => by rw [TL.spl_nil]; simp
  | 0, acc, ch :: s => by
    by_cases h : TL.pre sep (ch :: s) = true
    · rw [TL.spl_hit h]
      have := splitC_len sep (sep.length - 1) [] s
      simp
      omega
    · rw [TL.spl_miss (by simpa using h)]
      have := splitC_len sep 0 (acc ++ [ch]) s
      simp
      omega
  | k + 1, acc, ch :: s => by
    have := splitC_len sep k acc s
    show (TL.spl sep k acc s).length ≤ _
    simp
    omega
theorem strD_den {B : Hp} : ∀ ps : List (List Nat), DenL K B (ps.map D.str) ((ps.map fun s => (⟨s.toArray⟩ : Str)).map V.str)
  | [] => .nil
  | p :: ps => .cons (.str p) (strD_den ps)
theorem starts_S (s p : List Nat) : PySem.Txt.startswith ⟨s.toArray⟩ ⟨p.toArray⟩ = decide (s.take p.length = p) := by
  unfold PySem.Txt.startswith
  rw [StrLaws.subAt_eq, S_len, S_len]
  show (decide (0 + p.length ≤ s.length) && ((s.drop 0).take p.length == p)) = _
  rw [List.drop_zero, Nat.zero_add]
  by_cases h : s.take p.length = p
  · rw [decide_eq_true h, h]
    have : p.length ≤ s.length := by
      have := congrArg List.length h
      rw [List.length_take] at this
      omega
    simp [this]
  · rw [decide_eq_false h]
    have : (s.take p.length == p) = false := beq_eq_false_iff_ne.mpr h
    rw [this, Bool.and_false]
/-- a method of a text, by what is seen -/
theorem mt_ok {f : Mt} {a : D} {as : List D} {x : V} {xs : List V} {z : D} {m : Bool} {Q : VK} {E : EK} (eK : X.K = K) (o : Ok K c H) (sx : See K c.B H a x) (s : SeeL K c.B H as xs) (e : mtD f a as = some z) (p : Post K mg c H (alloc m z c.st) (RW K) Q E) :
    (∃ t, x = .str t) ∧ ∀ (pins : List (Addr × Obj)) (s : Shared) (σ : L2.St) (v : Value) (us : List Value), Inv X pins σ H s → RelV x v → Vals xs us → wpAny (model X.prog X.w) X.A (call (.builtin (idMt f)) (v :: us)) (EP X pins σ Q) X.xe s := by
  subst eK
  cases a with
  | str t =>
    cases sx
    refine ⟨⟨_, rfl⟩, ?_⟩
    intro pins sh σ v us I rx r
    cases s with
    | nil => cases e
    | @cons b bs y ys s1 s2 =>
      cases s2 with
      | nil =>
        cases f with
        | join =>
          obtain ⟨l, e1, e0⟩ := Option.bind_eq_some_iff.mp (show ((items b).bind fun l => (strsL l).bind fun ps => if fits ((ps.map (·.length)).sum + ps.length * t.length) then some (D.str (joinC t ps)) else none) = some z from e)
          obtain ⟨ps, e2, e00⟩ := Option.bind_eq_some_iff.mp e0
          obtain ⟨f, rfl⟩ := if_some e00
          obtain ⟨pa, vs, rfl, h, dl⟩ := items_of o s1 e1
          have ev := strsL_of dl e2
          subst ev
          refine mt_join pins sh σ H _ _ v us Q I rx r ⟨_, pa, ps.map fun s => (⟨s.toArray⟩ : Str), rfl, rfl, h, ?_, ?_⟩
          · rw [len_sum, List.length_map, S_len]
            exact of_decide_eq_true f
          · rw [join_S]
            exact alloc_old o (by intro _ z; cases z) p (.str _)
        | split =>
          cases b with
          | str sep =>
            cases s1
            obtain ⟨f, rfl⟩ := if_some e
            obtain ⟨f1, f2, f3⟩ := and3 f
            have ne : sep ≠ [] := by
              intro z
              subst z
              cases f1
            refine mt_split pins sh σ H _ _ v us Q I rx r ⟨_, _, rfl, rfl, ?_, ?_, ?_⟩
            · rw [S_len]
              cases sep with
              | nil => exact absurd rfl ne
              | cons _ _ => rfl
            · rw [S_len]
              exact fits_le f3
            · rw [split_S ne f2]
              exact alloc_new o p (strD_den _)
          | _ => cases e
        | startswith =>
          cases b with
          | str q =>
            cases s1
            cases e
            exact mt_startswith pins sh σ H _ _ v us Q I rx r ⟨_, _, rfl, rfl, by rw [starts_S]; exact alloc_old o (by intro _ z; cases z) p (.bool _)⟩
          | _ => cases e
        | find =>
          cases b with
          | str q =>
            cases s1
            match q, e with
            | [ch], e =>
              cases e
              refine mt_find pins sh σ H _ _ v us Q I rx r ⟨_, _, rfl, rfl, ?_⟩
              have ez : PySem.Txt.find ⟨t.toArray⟩ ⟨[ch].toArray⟩ = if ch ∈ t then (t.idxOf ch : Int) else -1 := by
                unfold PySem.Txt.find
                rw [occ_sign]
                split
                · rename_i h
                  split at h
                  · cases h
                    rename_i hm
                    rw [if_pos hm]
                  · cases h
                · rename_i h
                  split at h
                  · cases h
                  · rename_i hm
                    rw [if_neg hm]
              rw [ez]
              exact alloc_old o (by intro _ z; cases z) p (.int _)
            | [], e => cases e
            | _ :: _ :: _, e => cases e
          | _ => cases e
        | index =>
          cases b with
          | str q =>
            cases s1
            match q, e with
            | [ch], e =>
              obtain ⟨f, rfl⟩ := if_some e
              have hm : ch ∈ t := of_decide_eq_true f
              obtain ⟨tk, rfl⟩ := rx
              cases r with
              | cons r1 rs =>
                cases rs
                obtain ⟨tk2, rfl⟩ := r1
                have oc := occ_sign t ch
                rw [if_pos hm] at oc
                exact PySem.SC.index oc ⟨.int (t.idxOf ch : Nat), H, I.tok _, ⟨_, rfl⟩, alloc_old o (by intro _ z; cases z) p (.int _)⟩
            | [], e => cases e
            | _ :: _ :: _, e => cases e
          | _ => cases e
      | cons _ _ => cases e
  | _ => cases e
def tyV' : Ty → String
  | .bool => "bool" | .int => "int" | .str => "str" | .list => "list" | .tuple => "tuple"
end
end Cr

namespace Cr
open PySem L2
theorem pe_wk {X : Cx} {e : Expr} {t t' : TE} (h : PE X e t) (w : ∀ σ H Q, t' σ H Q → t σ H Q) : PE X e t' := ⟨fun pins s σ H Q I q => h.run pins s σ H Q I (w σ H Q q)⟩
theorem pt_wk {X : Cx} {e : Expr} {t t' : TT} (h : PT X e t) (w : ∀ σ H Q, t' σ H Q → t σ H Q) : PT X e t' := ⟨fun pins s σ H Q I q => h.run pins s σ H Q I (w σ H Q q)⟩
theorem pw_wk {X : Cx} {e : Expr} {t t' : TT} (h : PW X e t) (w : ∀ σ H Q, t' σ H Q → t σ H Q) : PW X e t' := ⟨fun wh pins s σ H Q I q => h.run wh pins s σ H Q I (w σ H Q q)⟩
theorem pa_wk {X : Cx} {e : List Expr} {t t' : TA} (h : PA X e t) (w : ∀ σ H Q, t' σ H Q → t σ H Q) : PA X e t' := ⟨fun pos pins s σ H Q I q => h.run pos pins s σ H Q I (w σ H Q q)⟩
theorem pi_wk {X : Cx} {tg e : Expr} {t t' : TI} (h : PI X tg e t) (w : ∀ σ H Q, t' σ H Q → t σ H Q) : PI X tg e t' := ⟨fun pins s σ H Q I q => h.run pins s σ H Q I (w σ H Q q)⟩
theorem po_wk {X : Cx} {e : Option Expr} {t t' : TO} (h : PO X e t) (w : ∀ σ H Q, t' σ H Q → t σ H Q) : PO X e t' := ⟨fun pins s σ H Q I q => h.run pins s σ H Q I (w σ H Q q)⟩
theorem pi_or {X : Cx} {tg e : Expr} {t u : TI} (h : PI X tg e t) (k : PI X tg e u) : PI X tg e (fun σ H R => t σ H R ∨ u σ H R) := ⟨fun pins s σ H R I q => by
  rcases q with q | q
  · exact h.run pins s σ H R I q
  · exact k.run pins s σ H R I q⟩
theorem pe_none {X : Cx} {e : Expr} {t : TE} (w : ∀ σ H Q, ¬ t σ H Q) : PE X e t := ⟨fun _ _ σ H Q _ q => (w σ H Q q).elim⟩
theorem pt_none {X : Cx} {e : Expr} {t : TT} (w : ∀ σ H Q, ¬ t σ H Q) : PT X e t := ⟨fun _ _ σ H Q _ q => (w σ H Q q).elim⟩
theorem pw_none {X : Cx} {e : Expr} {t : TT} (w : ∀ σ H Q, ¬ t σ H Q) : PW X e t := ⟨fun _ _ _ σ H Q _ q => (w σ H Q q).elim⟩
theorem pa_none {X : Cx} {e : List Expr} {t : TA} (w : ∀ σ H Q, ¬ t σ H Q) : PA X e t := ⟨fun _ _ _ σ H Q _ q => (w σ H Q q).elim⟩
theorem pi_none {X : Cx} {tg e : Expr} {t : TI} (w : ∀ σ H Q, ¬ t σ H Q) : PI X tg e t := ⟨fun _ _ σ H Q _ q => (w σ H Q q).elim⟩
theorem bind_assoc' {α β γ : Type} (m : M α) (f : α → M β) (g : β → M γ) : M.bind (M.bind m f) g = M.bind m fun a => M.bind (f a) g := by
  funext s
  show ((m s).andThen f).andThen g = (m s).andThen fun a => M.bind (f a) g
  cases m s <;> rfl

abbrev RL (K : KF) : Cfg → Hp → List W → List V → Prop := fun c _ ws vs => WDenL K c ws vs
abbrev RB : Cfg → Hp → Bool → Bool → Prop := fun _ _ a b => a = b
abbrev RO : Cfg → Hp → Option Int → Option Int → Prop := fun _ _ a b => a = b
/-- the items that a walk gives from any later state -/
def Walks (K : KF) (J : It) (c : Cfg) (H : Hp) (xs : List D) : Prop := ∀ (i : Nat) c' H', Ext c H c' H' → Ok K c' H' →
  (i = xs.length → J.stop i H') ∧ ∀ x, xs[i]? = some x → J.go i H' ∧ ∀ v H2, J.yld i H' v H2 → ∃ c2, c2.st = c'.st ∧ Ext c' H' c2 H2 ∧ Ok K c2 H2 ∧ Den K c2.B x v
abbrev RI (K : KF) : Cfg → Hp → List D → It → Prop := fun c H xs J => Walks K J c H xs
section
variable {K : KF} {mg : Str → Option Value} {Wx : WX}
theorem tG_bad {α β : Type} {m : Env → M α} {R : Cfg → Hp → α → β → Prop} (h : ∀ ρ s, m ρ s = .bad) : ∀ σ H Q, ¬ tG K mg Wx m R σ H Q := fun σ H Q ⟨c, ρ, _, _, p⟩ => by
  rw [h] at p
  exact p
end
abbrev vG (X : Cx) (Wx : WX) (m : Env → M W) : TE := tG X.K X.mg Wx m (RW X.K)
abbrev lG (X : Cx) (Wx : WX) (m : Env → M (List W)) : TA := tG X.K X.mg Wx m (RL X.K)
abbrev bG (X : Cx) (Wx : WX) (m : Env → M Bool) : TT := tG X.K X.mg Wx m RB
abbrev oG (X : Cx) (Wx : WX) (m : Env → M (Option Int)) : TO := tG X.K X.mg Wx m RO
abbrev iG (X : Cx) (Wx : WX) (m : Env → M (List D)) : TI := tG X.K X.mg Wx m (RI X.K)
/-- a test that is its value's truth -/
def Plain (X : Cx) (e : Expr) : Prop := ∀ whole, isTrue e X.env whole = (do let v ← whole; standAt e.pos; holding [v] (truthy v))
section
variable {X : Cx} {Wx : WX} {a b d e i : Expr} {es rest : List Expr} {pos : Pos} {va vb vd : Env → M W} {ta tb : Env → M Bool}
theorem star_ne {env : PySem.Env} (h : isStar e = false) : starEach (e :: es) env = (false, eval e env) :: starEach es env := by
  cases e <;> first | rfl | cases h
theorem star_plain {env : PySem.Env} : ∀ {es : List Expr}, noStar es = true → (backTo pos (starEach es env)).any (·.1) = false
  | [], _ => rfl
  | e :: es, h => by
    have h : (!isStar e && noStar es) = true := h
    obtain ⟨h1, h2⟩ := and2 h
    rw [star_ne (by simpa using h1)]
    show (false || (backTo pos (starEach es env)).any (·.1)) = false
    rw [star_plain h2]
    rfl
/-- expressions and what tells them, one by one -/
inductive PEs (X : Cx) (Wx : WX) : List Expr → List Sm → Prop
  | nil : PEs X Wx [] []
  | cons {e : Expr} {es : List Expr} {m : Sm} {ms : List Sm} : isStar e = false → PE X e (vG X Wx m.v) → PEs X Wx es ms → PEs X Wx (e :: es) (m :: ms)
theorem PEs.plain : ∀ {es : List Expr} {ms : List Sm}, PEs X Wx es ms → noStar es = true
  | _, _, .nil => rfl
  | _, _, .cons h _ r => by
    show (!isStar _ && noStar _) = true
    rw [h, r.plain]
    rfl
theorem s_args : ∀ {es : List Expr} {ms : List Sm}, PEs X Wx es ms → PA X es (lG X Wx (smL ms))
  | _, _, .nil => pa_wk pa_nil fun σ H Q ⟨c, ρ, o, e, p⟩ => p.now o .nil
  | _, _, .cons hs h r => pa_wk (pa_cons h (s_args r) (star_ne hs)) fun σ H Q ⟨c, ρ, o, e, p⟩ => (tG.bind o e rfl p).imp fun x H1 ⟨c1, w, e1, o1, er1, d1, p1⟩ =>
      (tG.bind o1 er1 rfl p1).imp fun xs H2 ⟨c2, ws, e2, o2, er2, d2, p2⟩ => p2.now o2 (.cons (d1.mono e2) d2)
theorem s_var {k : Nat} {x : Str} (hN : X.N[k]? = some x) (hv : Vis X.env.scope x) (h1 : (x == ("__debug__" : Str)) = false) (h2 : (x == ("__classdict__" : Str)) = false) : PE X (.Name x pos) (vG X Wx (getVar k)) :=
  pe_wk (pe_var hN hv h1 h2) fun σ H Q ⟨c, ρ, o, e, p⟩ => by
    have p : Post X.K X.mg c H (match ρ[k]? with | some (some w) => Res.ok w c.st | _ => .bad) _ _ _ := p
    split at p
    · rename_i w hw
      obtain ⟨v, q1, q2⟩ := e.2 k w hw
      exact ⟨v, q1, p.now o q2⟩
    · exact p.elim
theorem s_glob {x : Str} {y : D} {u : Value} {v : V} (hg : Gl X x) (hm : X.mg x = some u) (r : RelV v u) (hd : ∀ B, Den X.K B y v) (h1 : (x == ("__debug__" : Str)) = false) : PE X (.Name x pos) (vG X Wx fun _ => M.pure (.d y)) :=
  pe_wk (pe_glob hg hm r h1) fun σ H Q ⟨c, ρ, o, e, p⟩ => p.now (b := v) o (hd _)
theorem s_con {k : Const} {y : D} {j : Nat} (h : conD k = some y) : PE X (.Constant k j pos) (vG X Wx fun _ => M.pure (.d y)) := by
  cases k with
  | none => cases h; exact pe_wk pe_non fun σ H Q ⟨c, ρ, o, e, p⟩ => p.now (b := V.non) o .non
  | bool b => cases h; exact pe_wk pe_bl fun σ H Q ⟨c, ρ, o, e, p⟩ => p.now (b := V.bl b) o (.bool b)
  | int i => cases h; exact pe_wk pe_int fun σ H Q ⟨c, ρ, o, e, p⟩ => p.now (b := V.int i) o (.int i)
  | str s =>
    cases h
    refine pe_wk pe_str fun σ H Q ⟨c, ρ, o, e, p⟩ => ?_
    have q := p.now (b := V.str ⟨s.cps.toList.toArray⟩) o (.str s.cps.toList)
    rw [S_of] at q
    exact q
  | _ => cases h
theorem s_tup {ms : List Sm} {j : Nat} (h : PEs X Wx es ms) : PE X (.Tuple es j pos) (vG X Wx fun ρ => M.bind (smL ms ρ) fun ws => M.bind (freezes ws) fun xs => M.bind (guard (fits xs.length)) fun _ => M.pure (.d (.tup xs))) :=
  pe_wk (pe_tup (s_args h)) fun σ H Q ⟨c, ρ, o, e, p⟩ => (tG.bind o e rfl p).imp fun vs H1 ⟨c1, ws, e1, o1, er1, d1, p1⟩ => by
    obtain ⟨c2, xs, e2, o2, d2, p2⟩ := post_freezes o1 d1 p1
    obtain ⟨f, p2⟩ := post_guard p2
    exact ⟨by rw [← d2.length]; exact fits_le f, tup_new o2 p2 d2⟩
theorem s_list {m : Bool} {ms : List Sm} (h : PEs X Wx es ms) : PE X (.List es pos) (vG X Wx fun ρ => M.bind (smL ms ρ) fun ws => M.bind (freezes ws) fun xs => M.bind (guard (fits xs.length)) fun _ => alloc m (.list xs)) :=
  pe_wk (pe_lst (s_args h)) fun σ H Q ⟨c, ρ, o, e, p⟩ => (tG.bind o e rfl p).imp fun vs H1 ⟨c1, ws, e1, o1, er1, d1, p1⟩ => by
    obtain ⟨c2, xs, e2, o2, d2, p2⟩ := post_freezes o1 d1 p1
    obtain ⟨f, p2⟩ := post_guard p2
    exact ⟨by rw [← d2.length]; exact fits_le f, alloc_new o2 p2 d2⟩
theorem s_bin {op : Operator} {m : Bool} (ha : PE X a (vG X Wx va)) (hb : PE X b (vG X Wx vb)) :
    PE X (.BinOp a op b pos) (vG X Wx fun ρ => M.bind (va ρ) fun x => M.bind (vb ρ) fun y => M.bind (peek x) fun x => M.bind (peek y) fun y => M.bind (lift (binD op x y)) fun z => alloc m z) :=
  pe_wk (pe_op (op_bin op) ha hb) fun σ H Q ⟨c, ρ, o, e, p⟩ => (tG.bind o e rfl p).imp fun x H1 ⟨c1, w1, e1, o1, er1, d1, p1⟩ => (tG.bind o1 er1 rfl p1).imp fun y H2 ⟨c2, w2, e2, o2, er2, d2, p2⟩ => by
    obtain ⟨a, sa, p2⟩ := post_peek o2 (d1.mono e2) p2
    obtain ⟨b, sb, p2⟩ := post_peek o2 d2 p2
    obtain ⟨z, ez, p2⟩ := post_lift p2
    exact bin_ok o2 sa sb ez p2
theorem s_un {op : UnaryOp} (ha : PE X a (vG X Wx va)) : PE X (.UnaryOp op a pos) (vG X Wx fun ρ => M.bind (va ρ) fun x => M.bind (peek x) fun x => M.bind (lift (unD op x)) fun z => M.pure (.d z)) :=
  pe_wk (pe_un (op_un op) ha) fun σ H Q ⟨c, ρ, o, e, p⟩ => (tG.bind o e rfl p).imp fun x H1 ⟨c1, w1, e1, o1, er1, d1, p1⟩ => by
    obtain ⟨a, sa, p1⟩ := post_peek o1 d1 p1
    obtain ⟨z, ez, p1⟩ := post_lift p1
    exact un_ok sa ez fun v dv => done_d o1 p1 dv
theorem s_cmp {op : CmpOp} (hu : X.A.units + 64 < cLine) (ha : PE X a (vG X Wx va)) (hb : PE X b (vG X Wx vb)) (hm : behindInMarks op b = false) :
    PE X (.Compare a [op] [b] pos) (vG X Wx fun ρ => M.bind (va ρ) fun x => M.bind (vb ρ) fun y => M.bind (peek x) fun x => M.bind (peek y) fun y => M.bind (lift (cmpD op x y)) fun z => M.pure (.d (.bool z))) :=
  pe_wk (pe_cmpR (op_cmp hu op) ha hb hm) fun σ H Q ⟨c, ρ, o, e, p⟩ => (tG.bind o e rfl p).imp fun x H1 ⟨c1, w1, e1, o1, er1, d1, p1⟩ => (tG.bind o1 er1 rfl p1).imp fun y H2 ⟨c2, w2, e2, o2, er2, d2, p2⟩ => by
    obtain ⟨a, sa, p2⟩ := post_peek o2 (d1.mono e2) p2
    obtain ⟨b, sb, p2⟩ := post_peek o2 d2 p2
    obtain ⟨z, ez, p2⟩ := post_lift p2
    exact cmp_ok o2 sa sb ez (done_d o2 p2 (.bool z))
theorem s_cmpT {op : CmpOp} (hu : X.A.units + 64 < cLine) (ha : PE X a (vG X Wx va)) (hb : PE X b (vG X Wx vb)) (hm : behindInMarks op b = false) :
    PT X (.Compare a [op] [b] pos) (bG X Wx (vT fun ρ => M.bind (va ρ) fun x => M.bind (vb ρ) fun y => M.bind (peek x) fun x => M.bind (peek y) fun y => M.bind (lift (cmpD op x y)) fun z => M.pure (.d (.bool z)))) :=
  pt_wk (pt_cmpR (op_cmp hu op) ha hb hm) fun σ H Q ⟨c, ρ, o, e, p⟩ => by
    unfold vT at p
    simp only [bind_assoc'] at p
    refine (tG.bind o e rfl p).imp fun x H1 ⟨c1, w1, e1, o1, er1, d1, p1⟩ => (tG.bind o1 er1 rfl p1).imp fun y H2 ⟨c2, w2, e2, o2, er2, d2, p2⟩ => ?_
    obtain ⟨a, sa, p2⟩ := post_peek o2 (d1.mono e2) p2
    obtain ⟨b, sb, p2⟩ := post_peek o2 d2 p2
    obtain ⟨z, ez, p2⟩ := post_lift p2
    exact cmp_ok o2 sa sb ez ⟨z, rfl, p2.now (b := z) o2 rfl⟩
theorem s_cmp2 {op op2 : CmpOp} (hu : X.A.units + 64 < cLine) (ha : PE X a (vG X Wx va)) (hb : PE X b (vG X Wx vb)) (hd : PE X d (vG X Wx vd)) (hm : behindInMarks op2 d = false) :
    PE X (.Compare a [op, op2] [b, d] pos) (vG X Wx fun ρ => M.bind (va ρ) fun x => M.bind (vb ρ) fun y => M.bind (peek x) fun x => M.bind (peek y) fun y' => M.bind (lift (cmpD op x y')) fun z =>
      if z then M.bind (vd ρ) fun w => M.bind (peek y) fun y => M.bind (peek w) fun w => M.bind (lift (cmpD op2 y w)) fun z => M.pure (.d (.bool z)) else M.pure (.d (.bool false))) :=
  pe_wk (pe_chain (op_cmp hu op) (op_cmp hu op2) ha hb hd hm) fun σ H Q ⟨c, ρ, o, e, p⟩ => (tG.bind o e rfl p).imp fun x H1 ⟨c1, w1, e1, o1, er1, d1, p1⟩ => (tG.bind o1 er1 rfl p1).imp fun y H2 ⟨c2, w2, e2, o2, er2, d2, p2⟩ => by
    obtain ⟨a, sa, p2⟩ := post_peek o2 (d1.mono e2) p2
    obtain ⟨b, sb, p2⟩ := post_peek o2 d2 p2
    obtain ⟨z, ez, p2⟩ := post_lift p2
    refine cmp_ok o2 sa sb ez ⟨z, rfl, ?_⟩
    cases z with
    | false => exact done_d o2 p2 (.bool false)
    | true =>
      refine (tG.bind o2 er2 rfl p2).imp fun u H3 ⟨c3, w3, e3, o3, er3, d3, p3⟩ => ?_
      obtain ⟨b, sb, p3⟩ := post_peek o3 (d2.mono e3) p3
      obtain ⟨d, sd, p3⟩ := post_peek o3 d3 p3
      obtain ⟨z, ez, p3⟩ := post_lift p3
      exact cmp_ok o3 sb sd ez (done_d o3 p3 (.bool z))
theorem ite_bind {α β : Type} {b : Prop} [Decidable b] (x y : M α) (k : α → M β) : M.bind (if b then x else y) k = if b then M.bind x k else M.bind y k := by
  split <;> rfl
theorem s_cmp2T {op op2 : CmpOp} (hu : X.A.units + 64 < cLine) (ha : PE X a (vG X Wx va)) (hb : PE X b (vG X Wx vb)) (hd : PE X d (vG X Wx vd)) (hm : behindInMarks op2 d = false) :
    PT X (.Compare a [op, op2] [b, d] pos) (bG X Wx (vT fun ρ => M.bind (va ρ) fun x => M.bind (vb ρ) fun y => M.bind (peek x) fun x => M.bind (peek y) fun y' => M.bind (lift (cmpD op x y')) fun z =>
      if z then M.bind (vd ρ) fun w => M.bind (peek y) fun y => M.bind (peek w) fun w => M.bind (lift (cmpD op2 y w)) fun z => M.pure (.d (.bool z)) else M.pure (.d (.bool false)))) :=
  pt_wk (pt_chain (op_cmp hu op) (op_cmp hu op2) ha hb hd hm) fun σ H Q ⟨c, ρ, o, e, p⟩ => by
    unfold vT at p
    simp only [bind_assoc', ite_bind] at p
    refine (tG.bind o e rfl p).imp fun x H1 ⟨c1, w1, e1, o1, er1, d1, p1⟩ => (tG.bind o1 er1 rfl p1).imp fun y H2 ⟨c2, w2, e2, o2, er2, d2, p2⟩ => ?_
    obtain ⟨a, sa, p2⟩ := post_peek o2 (d1.mono e2) p2
    obtain ⟨b, sb, p2⟩ := post_peek o2 d2 p2
    obtain ⟨z, ez, p2⟩ := post_lift p2
    refine cmp_ok o2 sa sb ez ⟨z, rfl, ?_⟩
    cases z with
    | false => exact ⟨false, rfl, p2.now (b := false) o2 rfl⟩
    | true =>
      refine (tG.bind o2 er2 rfl p2).imp fun u H3 ⟨c3, w3, e3, o3, er3, d3, p3⟩ => ?_
      obtain ⟨b, sb, p3⟩ := post_peek o3 (d2.mono e3) p3
      obtain ⟨d, sd, p3⟩ := post_peek o3 d3 p3
      obtain ⟨z, ez, p3⟩ := post_lift p3
      exact cmp_ok o3 sb sd ez ⟨z, rfl, p3.now (b := z) o3 rfl⟩
theorem s_truth (ha : PE X a (vG X Wx va)) (hp : Plain X a) : PT X a (bG X Wx (vT va)) :=
  pt_wk (pt_truth ha hp) fun σ H Q ⟨c, ρ, o, e, p⟩ => (tG.bind o e rfl p).imp fun x H1 ⟨c1, w1, e1, o1, er1, d1, p1⟩ => by
    obtain ⟨a, sa, p1⟩ := post_peek o1 d1 p1
    have p1 : Post X.K X.mg c1 H1 (lift (truth a) c1.st) RB Q _ := p1
    cases et : truth a with
    | none =>
      rw [et] at p1
      exact p1.elim
    | some k =>
      rw [et] at p1
      exact ⟨k, truth_ok o1 sa et, p1.now (b := k) o1 rfl⟩
theorem s_not (ha : PE X a (vG X Wx va)) : PE X (.UnaryOp .Not a pos) (vG X Wx fun ρ => M.bind (va ρ) fun x => M.bind (peek x) fun d => M.bind (lift (truth d)) fun t => M.pure (.d (.bool (!t)))) :=
  pe_wk (pe_notT ha) fun σ H Q ⟨c, ρ, o, e, p⟩ => (tG.bind o e rfl p).imp fun x H1 ⟨c1, w1, e1, o1, er1, d1, p1⟩ => by
    obtain ⟨a, sa, p1⟩ := post_peek o1 d1 p1
    obtain ⟨k, ek, p1⟩ := post_lift p1
    exact ⟨k, truth_ok o1 sa ek, done_d o1 p1 (.bool _)⟩
theorem s_notT (ha : PT X a (bG X Wx ta)) : PT X (.UnaryOp .Not a pos) (bG X Wx fun ρ => M.bind (ta ρ) fun t => M.pure (!t)) :=
  pt_wk (pt_not ha) fun σ H Q ⟨c, ρ, o, e, p⟩ => (tG.bind o e rfl p).imp fun x H1 ⟨c1, w1, e1, o1, er1, d1, p1⟩ => by
    have d1 : w1 = x := d1
    subst d1
    exact p1.now (b := !w1) o1 rfl
theorem s_and (ha : PE X a (vG X Wx va)) (hb : PE X (.BoolOp .And (b :: rest) pos) (vG X Wx vb)) :
    PE X (.BoolOp .And (a :: b :: rest) pos) (vG X Wx fun ρ => M.bind (va ρ) fun x => M.bind (peek x) fun d => M.bind (lift (truth d)) fun t => if t then vb ρ else M.pure x) :=
  pe_wk (pe_andT ha hb) fun σ H Q ⟨c, ρ, o, e, p⟩ => (tG.bind o e rfl p).imp fun x H1 ⟨c1, w1, e1, o1, er1, d1, p1⟩ => by
    obtain ⟨a, sa, p1⟩ := post_peek o1 d1 p1
    obtain ⟨k, ek, p1⟩ := post_lift p1
    refine ⟨k, truth_ok o1 sa ek, ?_⟩
    cases k with
    | true => exact ⟨c1, ρ, o1, er1, p1⟩
    | false => exact p1.now o1 d1
theorem s_or (ha : PE X a (vG X Wx va)) (hb : PE X (.BoolOp .Or (b :: rest) pos) (vG X Wx vb)) :
    PE X (.BoolOp .Or (a :: b :: rest) pos) (vG X Wx fun ρ => M.bind (va ρ) fun x => M.bind (peek x) fun d => M.bind (lift (truth d)) fun t => if t then M.pure x else vb ρ) :=
  pe_wk (pe_orT ha hb) fun σ H Q ⟨c, ρ, o, e, p⟩ => (tG.bind o e rfl p).imp fun x H1 ⟨c1, w1, e1, o1, er1, d1, p1⟩ => by
    obtain ⟨a, sa, p1⟩ := post_peek o1 d1 p1
    obtain ⟨k, ek, p1⟩ := post_lift p1
    refine ⟨k, truth_ok o1 sa ek, ?_⟩
    cases k with
    | false => exact ⟨c1, ρ, o1, er1, p1⟩
    | true => exact p1.now o1 d1
theorem s_andT (ha : PT X a (bG X Wx ta)) (hb : PW X (.BoolOp .And (b :: rest) pos) (bG X Wx tb)) : PW X (.BoolOp .And (a :: b :: rest) pos) (bG X Wx fun ρ => M.bind (ta ρ) fun t => if t then tb ρ else M.pure false) :=
  pw_wk (pw_and ha hb) fun σ H Q ⟨c, ρ, o, e, p⟩ => (tG.bind o e rfl p).imp fun x H1 ⟨c1, w1, e1, o1, er1, d1, p1⟩ => by
    have d1 : w1 = x := d1
    subst d1
    cases w1 with
    | true => exact ⟨c1, ρ, o1, er1, p1⟩
    | false => exact p1.now (b := false) o1 rfl
theorem s_orT (ha : PT X a (bG X Wx ta)) (hb : PW X (.BoolOp .Or (b :: rest) pos) (bG X Wx tb)) : PW X (.BoolOp .Or (a :: b :: rest) pos) (bG X Wx fun ρ => M.bind (ta ρ) fun t => if t then M.pure true else tb ρ) :=
  pw_wk (pw_or ha hb) fun σ H Q ⟨c, ρ, o, e, p⟩ => (tG.bind o e rfl p).imp fun x H1 ⟨c1, w1, e1, o1, er1, d1, p1⟩ => by
    have d1 : w1 = x := d1
    subst d1
    cases w1 with
    | false => exact ⟨c1, ρ, o1, er1, p1⟩
    | true => exact p1.now (b := true) o1 rfl
theorem s_ite (hd : PT X d (bG X Wx ta)) (ha : PE X a (vG X Wx va)) (hb : PE X b (vG X Wx vb)) : PE X (.IfExp d a b pos) (vG X Wx fun ρ => M.bind (ta ρ) fun t => if t then va ρ else vb ρ) :=
  pe_wk (pe_ifExp hd ha hb) fun σ H Q ⟨c, ρ, o, e, p⟩ => (tG.bind o e rfl p).imp fun x H1 ⟨c1, w1, e1, o1, er1, d1, p1⟩ => by
    have d1 : w1 = x := d1
    subst d1
    cases w1 with
    | true => exact ⟨c1, ρ, o1, er1, p1⟩
    | false => exact ⟨c1, ρ, o1, er1, p1⟩
theorem s_iteT {tc : Env → M Bool} (hd : PT X d (bG X Wx tc)) (ha : PT X a (bG X Wx ta)) (hb : PT X b (bG X Wx tb)) : PT X (.IfExp d a b pos) (bG X Wx fun ρ => M.bind (tc ρ) fun t => if t then ta ρ else tb ρ) := by
  refine ⟨fun pins s σ H Q I h => ?_⟩
  obtain ⟨c, ρ, o, e, p⟩ := h
  show wpAny _ _ (do if ← isTrue d X.env (eval d X.env) then isTrue a X.env (eval a X.env) else isTrue b X.env (eval b X.env)) _ _ _
  refine wpAny_bind (thn (hd.run pins s σ H _ I (tG.bind o e rfl p)) fun k s1 ⟨H1, I1, c1, w1, e1, o1, er1, d1, p1⟩ => ?_)
  have d1 : w1 = k := d1
  subst d1
  cases w1 with
  | true => exact ha.run pins s1 σ H1 Q I1 ⟨c1, ρ, o1, er1, p1⟩
  | false => exact hb.run pins s1 σ H1 Q I1 ⟨c1, ρ, o1, er1, p1⟩
theorem plainIx_of (h : isSlice i = false) : PlainIx i := fun o v => by
  cases i <;> first | rfl | cases h
theorem s_idx (ha : PE X a (vG X Wx va)) (hb : PE X b (vG X Wx vb)) (hs : isSlice b = false) :
    PE X (.Subscript a b pos) (vG X Wx fun ρ => M.bind (va ρ) fun x => M.bind (vb ρ) fun y => M.bind (peek x) fun x => M.bind (peek y) fun y => M.bind (lift (idxD x y)) fun z => M.pure (.d z)) :=
  pe_wk (pe_ix ix_seq ha hb (plainIx_of hs)) fun σ H Q ⟨c, ρ, o, e, p⟩ => (tG.bind o e rfl p).imp fun x H1 ⟨c1, w1, e1, o1, er1, d1, p1⟩ => (tG.bind o1 er1 rfl p1).imp fun y H2 ⟨c2, w2, e2, o2, er2, d2, p2⟩ => by
    obtain ⟨a, sa, p2⟩ := post_peek o2 (d1.mono e2) p2
    obtain ⟨b, sb, p2⟩ := post_peek o2 d2 p2
    obtain ⟨z, ez, p2⟩ := post_lift p2
    exact idx_ok o2 sa sb ez fun v dv => done_d o2 p2 dv
theorem s_part (ha : PE X a (vG X Wx va)) : PO X (some a) (oG X Wx fun ρ => M.bind (va ρ) partW) :=
  po_wk (po_some ha) fun σ H Q ⟨c, ρ, o, e, p⟩ => (tG.bind o e rfl p).imp fun x H1 ⟨c1, w1, e1, o1, er1, d1, p1⟩ => by
    obtain ⟨y, sy, p1⟩ := post_peek o1 d1 p1
    cases y with
    | int i =>
      cases sy
      exact ⟨i, rfl, p1.now (b := some i) o1 rfl⟩
    | _ => exact p1.elim
theorem s_part0 : PO X none (oG X Wx fun _ => M.pure none) := po_wk po_none fun σ H Q ⟨c, ρ, o, e, p⟩ => p.now (b := none) o rfl
theorem s_slice {m : Bool} {lo hi : Option Expr} {ml mh : Env → M (Option Int)} {p2 : Pos} (ha : PE X a (vG X Wx va)) (hl : PO X lo (oG X Wx ml)) (hh : PO X hi (oG X Wx mh)) :
    PE X (.Subscript a (.Slice lo hi none p2) pos) (vG X Wx fun ρ => M.bind (va ρ) fun x => M.bind (ml ρ) fun l => M.bind (mh ρ) fun h => M.bind (peek x) fun x => M.bind (lift (sliceD x l h)) fun z => alloc m z) :=
  pe_wk (pe_slice sl_ok ha hl hh) fun σ H Q ⟨c, ρ, o, e, p⟩ => (tG.bind o e rfl p).imp fun x H1 ⟨c1, w1, e1, o1, er1, d1, p1⟩ => (tG.bind o1 er1 rfl p1).imp fun l H2 ⟨c2, w2, e2, o2, er2, d2, p2⟩ =>
    (tG.bind o2 er2 rfl p2).imp fun h H3 ⟨c3, w3, e3, o3, er3, d3, p3⟩ => by
      have d2 : w2 = l := d2
      have d3 : w3 = h := d3
      subst d2
      subst d3
      obtain ⟨a, sa, p3⟩ := post_peek o3 ((d1.mono e2).mono e3) p3
      obtain ⟨z, ez, p3⟩ := post_lift p3
      exact slice_ok o3 sa ez p3
end
end Cr

namespace Cr
open PySem L2
def spR (K : KF) (mg : Str → Option Value) (run : Str → List W → M W) (f : Str) : Sp := fun vs H Q E => ∃ c ws, Ok K c H ∧ WDenL K c ws vs ∧ Post K mg c H (run f ws c.st) (RW K) Q E
/-- a def that keeps what run tells -/
structure Fnk (X : Cx) (run : Str → List W → M W) (n : Nat) (f : Str) : Prop where
  ex : ∃ (a : Addr) (fd : FuncData) (ps : List Str), X.mg f = some (.ref a) ∧ PySem.W.keepIn X.K (.ref a) = true ∧ Binds X.K fd ps [] ∧ FnOk X.prog X.w X.K X.mg X.base (L2.CX X.prog X.w) n a fd ps (spR X.K X.mg run f)
theorem freeze_ok {K : KF} {c : Cfg} {H : Hp} {w : W} {v : V} {x : D} {st : Store} (o : Ok K c H) (d : WDen K c w v) (h : freeze w c.st = .ok x st) : ∃ c1, c1.st = st ∧ Ext c H c1 H ∧ Ok K c1 H ∧ Den K c1.B x v := by
  cases w with
  | d y =>
    cases h
    exact ⟨c, rfl, Ext.refl c H, o, d⟩
  | ref n =>
    obtain ⟨a, h1, rfl⟩ := d
    have h : (match c.st[n]? with | some (.list xs) => Res.ok (D.list xs) (c.st.set n (.frz (.list xs))) | some (.frz d) => .ok d c.st | none => .bad) = .ok x st := h
    cases e : c.st[n]? with
    | none =>
      rw [e] at h
      cases h
    | some cell =>
      rw [e] at h
      cases cell with
      | list xs =>
        cases h
        obtain ⟨B', o1, e1, d1⟩ := frz_cell o h1 e
        exact ⟨_, rfl, e1, o1, d1⟩
      | frz y =>
        cases h
        exact ⟨c, rfl, Ext.refl c H, o, o.cells n a _ h1 e⟩
/-- behind a call by data alone the caller's own cells are as they were -/
theorem back {K : KF} {c c1 : Cfg} {H H1 : Hp} (o : Ok K c H) (e : Ext ⟨c.B, [], []⟩ H c1 H1) (o1 : Ok K c1 H1) : Ok K ⟨c1.B, c.pl, c.st⟩ H1 ∧ Ext c H ⟨c1.B, c.pl, c.st⟩ H1 := by
  have fr : ∀ a u, H a = some u → c.B a = none → H1 a = some u ∧ c1.B a = none := fun a u h1 h2 => e.frame a u h1 h2 (by intro z; cases z)
  refine ⟨⟨o1.sub, o.len, o.nd, fun n a cell h1 h2 => ?_, fun a ha => e.there a (o.own a ha)⟩, ⟨e.exB, ⟨[], by simp, by simp⟩, e.there, fun a u h1 h2 _ => fr a u h1 h2⟩⟩
  have q := o.cells n a cell h1 h2
  cases cell with
  | list xs =>
    obtain ⟨q1, vs, q2, q3⟩ := q
    obtain ⟨r1, r2⟩ := fr a _ q2 q1
    exact ⟨r2, vs, r1, q3.mono e.exB⟩
  | frz d => exact Den.mono e.exB q
theorem ok_sub {K : KF} {c : Cfg} {H : Hp} (o : Ok K c H) : Ok K ⟨c.B, [], []⟩ H := ⟨o.sub, rfl, by simp, fun n a cell h => by simp at h, fun a ha => by cases ha⟩
theorem wdenl_d {K : KF} {c : Cfg} : ∀ {xs : List D} {vs : List V}, DenL K c.B xs vs → WDenL K c (xs.map .d) vs
  | _, _, .nil => .nil
  | _, _, .cons h l => .cons h (wdenl_d l)
section
variable {X : Cx} {Wx : WX} {run : Str → List W → M W} {n : Nat} {a b e : Expr} {es : List Expr} {pos p : Pos} {ms : List Sm} {va vb : Env → M W}
theorem pe_callS0 {k : Nat} {f : Addr} {fd : FuncData} {ps : List Str} {sp : Sp} {x : Str} (F : FnOk X.prog X.w X.K X.mg X.base (L2.CX X.prog X.w) k f fd ps sp) (hr : Room k X.A) (hg : Gl X x) (hm : X.mg x = some (.ref f)) (hk : PySem.W.keepIn X.K (.ref f) = true)
    (hb : Binds X.K fd ps []) (tk : Takes X Wx) (hdb : (x == ("__debug__" : Str)) = false) : PE X (.Call (.Name x p) [] [] pos) (tCallS sp (WE Wx) tNil) :=
  ⟨fun _ s σ H _ I h => wpAny_Call_Name_kw (ld_glob I hg hm (PySem.W.callWith_K0 I.kIn hk (run_fnS (vs := []) (us := []) F hr hb (passAt tk σ) I .nil h)) hdb)⟩
theorem pe_callX {k : Nat} {f : Addr} {fd : FuncData} {ps : List Str} {sp : Sp} {x : Str} (F : FnOk X.prog X.w X.K X.mg X.base (L2.CX X.prog X.w) k f fd ps sp) (hr : Room k X.A) (hg : Gl X x) (hm : X.mg x = some (.ref f)) (hk : PySem.W.keepIn X.K (.ref f) = true)
    (hb : Binds X.K fd ps []) (tk : Takes X Wx) (hdb : (x == ("__debug__" : Str)) = false) (h : PEs X Wx es ms) : PE X (.Call (.Name x p) es [] pos) (tCallS sp (WE Wx) (lG X Wx (smL ms))) := by
  cases h with
  | nil => exact pe_wk (pe_callS0 F hr hg hm hk hb tk hdb) fun σ H Q ⟨c, ρ, o, e, p⟩ => p.now o .nil
  | cons h1 h2 h3 => exact pe_callS F hr hg hm hk hb (fun σ => passAt tk σ) (s_args (.cons h1 h2 h3)) hdb (star_ne h1) (star_plain h3.plain)
theorem s_callM {f : Str} (tk : Takes X Wx) (hr : Room n X.A) (hg : Gl X f) (F : Fnk X run n f) (hdb : (f == ("__debug__" : Str)) = false) (h : PEs X Wx es ms) :
    PE X (.Call (.Name f p) es [] pos) (vG X Wx fun ρ => M.bind (smL ms ρ) fun ws => run f ws) := by
  obtain ⟨ad, fd, ps, hm, hk, hb, G⟩ := F.ex
  exact pe_wk (pe_callX G hr hg hm hk hb tk hdb h) fun σ H Q ⟨c, ρ, o, e, p⟩ => (tG.bind o e rfl p).imp fun vs H1 ⟨c1, ws, e1, o1, er1, d1, p1⟩ => ⟨c1, ws, o1, d1, p1⟩
theorem peek_st0 {w : W} {x : D} {s s' : Store} (h : peek w s = .ok x s') : s' = s := by
  cases w with
  | d z => cases h; rfl
  | ref j =>
    have h : (match s[j]? with | some (.list xs) => Res.ok (D.list xs) s | some (.frz d) => .ok d s | none => .bad) = .ok x s' := h
    cases e : s[j]? with
    | none => rw [e] at h; cases h
    | some cell => rw [e] at h; cases cell <;> (cases h; rfl)
theorem peek_frz {w u : W} {x y : D} {s s1 s2 : Store} (h : freeze w s = .ok x s1) (k : peek u s = .ok y s2) : peek u s1 = .ok y s1 := by
  cases u with
  | d z => cases k; rfl
  | ref j =>
    cases w with
    | d z =>
      cases h
      have e := peek_st0 k
      subst e
      exact k
    | ref n =>
      have h0 : (match s[n]? with | some (.list xs) => Res.ok (D.list xs) (s.set n (.frz (.list xs))) | some (.frz d) => .ok d s | none => .bad) = .ok x s1 := h
      have k0 : (match s[j]? with | some (.list xs) => Res.ok (D.list xs) s | some (.frz d) => .ok d s | none => .bad) = .ok y s2 := k
      show (match s1[j]? with | some (.list xs) => Res.ok (D.list xs) s1 | some (.frz d) => .ok d s1 | none => .bad) = .ok y s1
      cases en : s[n]? with
      | none => rw [en] at h0; cases h0
      | some cn =>
        rw [en] at h0
        cases ej : s[j]? with
        | none => rw [ej] at k0; cases k0
        | some cj =>
          rw [ej] at k0
          cases cn with
          | frz d =>
            cases h0
            rw [ej]
            cases cj <;> (cases k0; rfl)
          | list xs =>
            cases h0
            by_cases e : n = j
            · subst e
              rw [en] at ej
              cases ej
              cases k0
              rw [List.getElem?_set_self (List.getElem?_eq_some_iff.mp en).1]
            · rw [List.getElem?_set_ne e, ej]
              cases cj <;> (cases k0; rfl)
theorem peeks_frz {w : W} {x : D} {s s1 : Store} (h : freeze w s = .ok x s1) : ∀ {us : List W} {ys : List D} {s2 : Store}, peeks us s = .ok ys s2 → ∃ s3, peeks us s1 = .ok ys s3
  | [], _, _, k => by cases k; exact ⟨s1, rfl⟩
  | u :: us, ys, s2, k => by
    have k1 : ((peek u s).andThen fun y s => (peeks us s).andThen fun ys => M.pure (y :: ys)) = .ok ys s2 := k
    cases pu : peek u s with
    | bad => rw [pu] at k1; cases k1
    | exc _ _ _ => rw [pu] at k1; cases k1
    | ok y s' =>
      rw [pu] at k1
      have es : s' = s := peek_st0 pu
      subst es
      have k2 : ((peeks us s').andThen fun ys => M.pure (y :: ys)) = .ok ys s2 := k1
      cases pus : peeks us s' with
      | bad => rw [pus] at k2; cases k2
      | exc _ _ _ => rw [pus] at k2; cases k2
      | ok zs s4 =>
        rw [pus] at k2
        cases k2
        obtain ⟨s3, e3⟩ := peeks_frz h pus
        refine ⟨s3, ?_⟩
        show ((peek u s1).andThen fun y s => (peeks us s).andThen fun ys => M.pure (y :: ys)) = _
        rw [peek_frz h pu]
        show ((peeks us s1).andThen fun ys => M.pure (y :: ys)) = _
        rw [e3]
        rfl
theorem freeze_ex {K : KF} {c : Cfg} {H : Hp} {w : W} {v : V} {x : D} {st : Store} (o : Ok K c H) (d : WDen K c w v) (h : peek w c.st = .ok x st) : ∃ c1, freeze w c.st = .ok x c1.st ∧ Ext c H c1 H ∧ Ok K c1 H ∧ Den K c1.B x v := by
  cases w with
  | d y =>
    cases h
    exact ⟨c, rfl, Ext.refl c H, o, d⟩
  | ref n =>
    obtain ⟨a, h1, rfl⟩ := d
    have h : (match c.st[n]? with | some (.list xs) => Res.ok (D.list xs) c.st | some (.frz d) => .ok d c.st | none => .bad) = .ok x st := h
    show ∃ c1 : Cfg, (match c.st[n]? with | some (.list xs) => Res.ok (D.list xs) (c.st.set n (.frz (.list xs))) | some (.frz d) => .ok d c.st | none => .bad) = .ok x c1.st ∧ _
    cases e : c.st[n]? with
    | none => rw [e] at h; cases h
    | some cell =>
      rw [e] at h
      cases cell with
      | list xs =>
        cases h
        obtain ⟨B', o1, e1, d1⟩ := frz_cell o h1 e
        exact ⟨_, rfl, e1, o1, d1⟩
      | frz y =>
        cases h
        exact ⟨c, rfl, Ext.refl c H, o, o.cells n a _ h1 e⟩
theorem freezes_ex {K : KF} {H : Hp} : ∀ {ws : List W} {vs : List V} {c : Cfg} {xs : List D} {st : Store}, Ok K c H → WDenL K c ws vs → peeks ws c.st = .ok xs st → ∃ c1, freezes ws c.st = .ok xs c1.st ∧ Ext c H c1 H ∧ Ok K c1 H ∧ DenL K c1.B xs vs
  | [], _, c, xs, st, o, .nil, h => by cases h; exact ⟨c, rfl, Ext.refl c H, o, .nil⟩
  | w :: ws, _, c, xs, st, o, .cons d l, h => by
    have h : ((peek w c.st).andThen fun y s => (peeks ws s).andThen fun ys => M.pure (y :: ys)) = .ok xs st := h
    cases pu : peek w c.st with
    | bad => rw [pu] at h; cases h
    | exc _ _ _ => rw [pu] at h; cases h
    | ok y s' =>
      rw [pu] at h
      have es : s' = c.st := peek_st0 pu
      subst es
      have h : ((peeks ws c.st).andThen fun ys => M.pure (y :: ys)) = .ok xs st := h
      cases pus : peeks ws c.st with
      | bad => rw [pus] at h; cases h
      | exc _ _ _ => rw [pus] at h; cases h
      | ok zs s4 =>
        rw [pus] at h
        cases h
        obtain ⟨c1, q1, e1, o1, d1⟩ := freeze_ex o d pu
        obtain ⟨s3, e3⟩ := peeks_frz q1 pus
        obtain ⟨c2, q2, e2, o2, d2⟩ := freezes_ex o1 (l.mono e1) e3
        refine ⟨c2, ?_, Ext.trans o1 e1 e2, o2, .cons (Den.mono e2.exB d1) d2⟩
        show ((freeze w c.st).andThen fun y s => (freezes ws s).andThen fun ys => M.pure (y :: ys)) = _
        rw [q1]
        show ((freezes ws c1.st).andThen fun ys => M.pure (y :: ys)) = _
        rw [q2]
        rfl
/-- behind a call by data alone all that was there is as it was -/
theorem stay {K : KF} {c c1 c2 : Cfg} {H H1 : Hp} (o : Ok K c H) (o1 : Ok K c1 H) (e : Ext ⟨c1.B, [], []⟩ H c2 H1) (o2 : Ok K c2 H1) : Ok K c H1 ∧ Ext c H c H1 := by
  have hh : ∀ a u, H a = some u → H1 a = some u := fun a u h1 => by
    cases hb : c1.B a with
    | none => exact (e.frame a u h1 hb (by intro z; cases z)).1
    | some u' =>
      have := o1.sub a u' hb
      rw [h1] at this
      cases this
      exact o2.sub a u (e.exB a u hb)
  refine ⟨⟨fun a u h => hh a u (o.sub a u h), o.len, o.nd, fun n a cell h1 h2 => ?_, fun a ha => e.there a (o.own a ha)⟩, ⟨Ex.refl _, ⟨[], by simp, by simp⟩, e.there, fun a u h1 h2 _ => ⟨hh a u h1, h2⟩⟩⟩
  have q := o.cells n a cell h1 h2
  cases cell with
  | list xs =>
    obtain ⟨q1, vs, q2, q3⟩ := q
    exact ⟨q1, vs, hh a _ q2, q3⟩
  | frz d => exact q
theorem Den.atom {K : KF} {B B' : Hp} {x : D} {v : V} (h : Den K B x v) (a : x.atom = true) : Den K B' x v := by
  cases h with
  | non => exact .non
  | bool b => exact .bool b
  | int i => exact .int i
  | str s => exact .str s
  | list _ _ => cases a
  | tup _ _ => cases a
  | rol _ _ => cases a
theorem s_call {f : Str} (tk : Takes X Wx) (hr : Room n X.A) (hg : Gl X f) (F : Fnk X run n f) (hdb : (f == ("__debug__" : Str)) = false) (h : PEs X Wx es ms) :
    PE X (.Call (.Name f p) es [] pos) (vG X Wx fun ρ => M.bind (smL ms ρ) fun ws => M.bind (pcall run f ws) fun z => M.pure (.d z)) := by
  obtain ⟨ad, fd, ps, hm, hk, hb, G⟩ := F.ex
  refine pe_wk (pe_callX G hr hg hm hk hb tk hdb h) fun σ H Q ⟨c, ρ, o, e, p⟩ => (tG.bind o e rfl p).imp fun vs H1 ⟨c1, ws, e1, o1, er1, d1, p1⟩ => ?_
  have p1 : Post X.K X.mg c1 H1 ((match peeks ws c1.st with
    | .ok xs _ => (match run f (xs.map .d) [] with
      | .ok w st => (match freeze w st with
        | .ok x _ => if x.atom then Res.ok x c1.st else (freezes ws c1.st).andThen fun _ s => .ok x s
        | _ => .bad)
      | .exc c d _ => (freezes ws c1.st).andThen fun _ s => .exc c d s
      | .bad => .bad)
    | _ => .bad).andThen fun z => M.pure (W.d z)) (RW X.K) Q _ := p1
  cases pk : peeks ws c1.st with
  | bad => rw [pk] at p1; exact p1.elim
  | exc _ _ _ => rw [pk] at p1; exact p1.elim
  | ok xs s0 =>
    rw [pk] at p1
    obtain ⟨c2, q2, e2, o2, d2⟩ := freezes_ex o1 d1 pk
    refine ⟨⟨c2.B, [], []⟩, xs.map .d, ok_sub o2, wdenl_d d2, ?_⟩
    show Post X.K X.mg _ H1 (run f (xs.map .d) []) _ _ _
    have p2 : Post X.K X.mg c1 H1 ((match run f (xs.map .d) [] with
      | .ok w st => (match freeze w st with
        | .ok x _ => if x.atom then Res.ok x c1.st else (freezes ws c1.st).andThen fun _ s => .ok x s
        | _ => .bad)
      | .exc c d _ => (freezes ws c1.st).andThen fun _ s => .exc c d s
      | .bad => .bad).andThen fun z => M.pure (W.d z)) (RW X.K) Q _ := p1
    rw [q2] at p2
    generalize run f (xs.map .d) [] = r at p2
    cases r with
    | bad => exact p2
    | exc cl dd st =>
      intro c' H' cls da h1 h2 h3 h4
      obtain ⟨o3, e3⟩ := back o2 h2 h3
      exact (Post.later (r := Res.exc cl dd c2.st) o2 e2 p2) ⟨c'.B, c2.pl, c2.st⟩ H' cls da rfl e3 o3 h4
    | ok w st =>
      intro c' H' v h1 h2 h3 h4
      subst h1
      have p2 : Post X.K X.mg c1 H1 ((match freeze w c'.st with
        | .ok x _ => if x.atom then Res.ok x c1.st else Res.ok x c2.st
        | _ => .bad).andThen fun z => M.pure (W.d z)) (RW X.K) Q _ := p2
      cases fz : freeze w c'.st with
      | bad => rw [fz] at p2; exact p2.elim
      | exc _ _ _ => rw [fz] at p2; exact p2.elim
      | ok x st2 =>
        rw [fz] at p2
        obtain ⟨c3, z3, e3, o3, d3⟩ := freeze_ok h3 h4 fz
        have e23 := Ext.trans h3 h2 e3
        have p2 : Post X.K X.mg c1 H1 ((if x.atom then Res.ok x c1.st else Res.ok x c2.st).andThen fun z => M.pure (W.d z)) (RW X.K) Q _ := p2
        by_cases ha : x.atom = true
        · rw [if_pos ha] at p2
          obtain ⟨o4, e4⟩ := stay o1 o2 e23 o3
          exact p2 c1 H' v rfl e4 o4 (Den.atom d3 ha)
        · rw [if_neg ha] at p2
          obtain ⟨o4, e4⟩ := back o2 e23 o3
          exact (Post.later (r := Res.ok (W.d x) c2.st) o2 e2 p2) ⟨c3.B, c2.pl, c2.st⟩ H' v rfl e4 o4 d3
def rAnyC (X : Cx) (f : Value) : List V → Hp → VK → Prop := fun vs H Q => ∀ (pins : List (Addr × Obj)) (s : Shared) (σ : L2.St) (us : List Value), Inv X pins σ H s → Vals vs us → wpAny (model X.prog X.w) X.A (call f us) (EP X pins σ Q) X.xe s
theorem callR_any (f : Value) : CallR X f (rAnyC X f) := fun pins s σ H xs us Q I r h => h pins s σ us I r
theorem boot_bi : ∀ f : Bi, bootBuiltins (nmBi f) = some (idBi f) := by intro f; cases f <;> decide +kernel
theorem nm_bi : ∀ f : Bi, nmBi f ≠ "__name__" ∧ (nmBi f == ("__debug__" : Str)) = false := by intro f; cases f <;> decide
theorem s_bi {f : Bi} {m : Bool} (hc : X.calm = true) (hg : Gl X (nmBi f)) (hm : X.mg (nmBi f) = none) (he : es ≠ []) (h : PEs X Wx es ms) :
    PE X (.Call (.Name (nmBi f) p) es [] pos) (vG X Wx fun ρ => M.bind (smL ms ρ) fun ws => M.bind (peeks ws) fun xs => M.bind (lift (biD f xs)) fun z => alloc m z) := by
  have wk : ∀ σ H Q, vG X Wx (fun ρ => M.bind (smL ms ρ) fun ws => M.bind (peeks ws) fun xs => M.bind (lift (biD f xs)) fun z => alloc m z) σ H Q → tCB (rAnyC X (idBi f)) (lG X Wx (smL ms)) σ H Q := fun σ H Q ⟨c, ρ, o, e, p⟩ =>
    (tG.bind o e rfl p).imp fun vs H1 ⟨c1, ws, e1, o1, er1, d1, p1⟩ => by
      obtain ⟨xs, sx, p1⟩ := post_peeks o1 d1 p1
      obtain ⟨z, ez, p1⟩ := post_lift p1
      exact bi_ok hc rfl o1 sx ez p1
  cases h with
  | nil => exact absurd rfl he
  | cons h1 h2 h3 =>
    refine pe_wk ?_ wk
    have q := boot_bi f
    obtain ⟨n1, n2⟩ := nm_bi f
    cases f with
    | len => exact pe_callB (callR_any _) hg hm q (s_args (.cons h1 h2 h3)) n1 n2 (star_ne h1) (star_plain h3.plain)
    | all => exact pe_callB (callR_any _) hg hm q (s_args (.cons h1 h2 h3)) n1 n2 (star_ne h1) (star_plain h3.plain)
    | any => exact pe_callB (callR_any _) hg hm q (s_args (.cons h1 h2 h3)) n1 n2 (star_ne h1) (star_plain h3.plain)
    | int => exact pe_callTy (callR_any _) hg hm q (s_args (.cons h1 h2 h3)) n1 n2 (star_ne h1) (star_plain h3.plain)
    | str => exact pe_callTy (callR_any _) hg hm q (s_args (.cons h1 h2 h3)) n1 n2 (star_ne h1) (star_plain h3.plain)
    | list => exact pe_callTy (callR_any _) hg hm q (s_args (.cons h1 h2 h3)) n1 n2 (star_ne h1) (star_plain h3.plain)
    | abs => exact pe_callB (callR_any _) hg hm q (s_args (.cons h1 h2 h3)) n1 n2 (star_ne h1) (star_plain h3.plain)
    | max => exact pe_callB (callR_any _) hg hm q (s_args (.cons h1 h2 h3)) n1 n2 (star_ne h1) (star_plain h3.plain)
    | min => exact pe_callB (callR_any _) hg hm q (s_args (.cons h1 h2 h3)) n1 n2 (star_ne h1) (star_plain h3.plain)
    | sum => exact pe_callB (callR_any _) hg hm q (s_args (.cons h1 h2 h3)) n1 n2 (star_ne h1) (star_plain h3.plain)
theorem base_of {o : Expr} {m : Str} {env : PySem.Env} (h : isSuper o = false) (w : Sem Value) : attributeBase o m env w = w := by
  unfold attributeBase
  split
  · rename_i id p1 p2 
    have h : (id == ("super" : Str)) = false := h
    have h2 : (id != ("super" : Str)) = true := by simp [bne, h]
    simp [h2]
  · rfl
theorem few_of {es' : List Expr} {env : PySem.Env} (h1 : isStar e = false) (h2 : noStar es' = true) (h3 : es'.length < 20) : ((backTo pos (starEach (e :: es') env)).all (fun x => !x.1) && (backToKw pos (keywordEach [] env)).all (fun x => x.1.isSome)
      && decide ((e :: es').length + ([] : List Keyword).length + (if ([] : List Keyword).isEmpty then 0 else 1) < 30)) = true := by
  have q : ((backTo pos (starEach (e :: es') env)).all (fun x => !x.1)) = true := by
    have r := star_plain (pos := pos) (env := env) (es := e :: es') (by show (!isStar e && noStar es') = true; rw [h1, h2]; rfl)
    rw [List.all_eq_true]
    intro x hx
    have := List.any_eq_false.mp r x hx
    simpa using this
  rw [q]
  show (true && true && decide (es'.length + 1 + 0 + 0 < 30)) = true
  simp
  omega
def rAnyM (X : Cx) (id : String) : V → List V → Hp → VK → Prop := fun x vs H Q => ∀ (pins : List (Addr × Obj)) (s : Shared) (σ : L2.St) (v : Value) (us : List Value), Inv X pins σ H s → RelV x v → Vals vs us → wpAny (model X.prog X.w) X.A (call (.builtin id) (v :: us)) (EP X pins σ Q) X.xe s
theorem mtR_any (id : String) : MtR X id (rAnyM X id) := fun pins s σ H x xs v us Q I rx r h => h pins s σ v us I rx r
structure SlotOk (m : Str) (id : String) : Prop where
  slot : Slot "str" m id
  ty : typeOf (.builtin id) = pure (.type "method_descriptor")
theorem slot_mt : ∀ f : Mt, SlotOk (nmMt f) (idMt f) := by
  intro f
  cases f with
  | join => exact ⟨PySem.F.slot_str_join, PySem.F.type_str_join⟩
  | split => exact ⟨PySem.F.slot_str_split, PySem.F.type_str_split⟩
  | index => exact ⟨PySem.F.slot_str_index, PySem.F.type_str_index⟩
  | find => exact ⟨PySem.F.slot_str_find, PySem.F.type_str_find⟩
  | startswith => exact ⟨PySem.F.slot_str_startswith, PySem.F.type_str_startswith⟩
theorem s_mt {f : Mt} {m : Bool} {o : Expr} {vo : Env → M W} {apos : Pos} (ho : PE X o (vG X Wx vo)) (h : PEs X Wx es ms) (he : es ≠ []) (hl : es.length < 20) (hs : isSuper o = false) (hline : (apos.endLine == pos.line) = true) :
    PE X (.Call (.Attribute o (nmMt f) apos) es [] pos) (vG X Wx fun ρ => M.bind (vo ρ) fun x => M.bind (peek x) fun x0 => M.bind (guard (isStr x0)) fun _ => M.bind (smL ms ρ) fun ws => M.bind (peek x) fun x => M.bind (peeks ws) fun xs => M.bind (lift (mtD f x xs)) fun z => alloc m z) := by
  have S := slot_mt f
  cases h with
  | nil => exact absurd rfl he
  | cons h1 h2 h3 =>
    refine pe_wk (pe_bm PySem.F.plainAttrs_str S.slot S.ty (mtR_any (idMt f)) ho (s_args (.cons h1 h2 h3)) (base_of hs _) (few_of h1 h3.plain (by simp at hl; omega)) hline (star_ne h1) (star_plain h3.plain)) fun σ H Q ⟨c, ρ, o, e, p⟩ =>
      (tG.bind o e rfl p).imp fun x H1 ⟨c1, w, e1, o1, er1, d1, p1⟩ => ?_
    obtain ⟨x0, s0, p1⟩ := post_peek o1 d1 p1
    obtain ⟨g, p1⟩ := post_guard p1
    have ty : tyV X.K "str" x H1 := by
      cases x0 with
      | str t => cases s0; exact rfl
      | _ => cases g
    refine ⟨ty, (tG.bind o1 er1 rfl p1).imp fun vs H2 ⟨c2, ws, e2, o2, er2, d2, p2⟩ => ?_⟩
    obtain ⟨y, sy, p2⟩ := post_peek o2 (d1.mono e2) p2
    obtain ⟨xs, sx, p2⟩ := post_peeks o2 d2 p2
    obtain ⟨z, ez, p2⟩ := post_lift p2
    exact (mt_ok rfl o2 sy sx ez p2).2
theorem s_app {o : Expr} {vo : Env → M W} {apos : Pos} (ho : PE X o (vG X Wx vo)) (ha : PE X a (vG X Wx va)) (h1 : isStar a = false) (hs : isSuper o = false) (hline : (apos.endLine == pos.line) = true) :
    PE X (.Call (.Attribute o "append" apos) [a] [] pos) (vG X Wx fun ρ => M.bind (vo ρ) fun x => M.bind (guardL x) fun _ => M.bind (va ρ) fun w => M.bind (freeze w) fun y => append x y) := by
  refine pe_wk (pe_bm PySem.F.plainAttrs_list PySem.F.slot_list_append PySem.F.type_list_append mt_append ho (pa_cons ha pa_nil (star_ne h1)) (base_of hs _) (few_of h1 rfl (by decide)) hline (star_ne h1) rfl) fun σ H Q ⟨c, ρ, o, e, p⟩ =>
    (tG.bind o e rfl p).imp fun x H1 ⟨c1, w, e1, o1, er1, d1, p1⟩ => ?_
  cases w with
  | d _ => exact p1.elim
  | ref k =>
    obtain ⟨ad, hi, rfl⟩ := d1
    have p1 : Post X.K X.mg c1 H1 ((match c1.st[k]? with | some (.list _) => Res.ok () c1.st | _ => .bad).andThen fun _ => M.bind (va ρ) fun w => M.bind (freeze w) fun y => append (.ref k) y) (RW X.K) Q _ := p1
    cases es : c1.st[k]? with
    | none =>
      rw [es] at p1
      exact p1.elim
    | some cell =>
      cases cell with
      | frz _ =>
        rw [es] at p1
        exact p1.elim
      | list xs =>
        rw [es] at p1
        obtain ⟨_, vs, q2, _⟩ := o1.cells k ad _ hi es
        refine ⟨.inl ⟨rfl, vs, SqL.of q2⟩, (tG.bind o1 er1 rfl p1).imp fun y H2 ⟨c2, w2, e2, o2, er2, d2, p2⟩ => ?_⟩
        obtain ⟨c3, y3, e3, o3, d3, p3⟩ := post_freeze o2 d2 p2
        have hi3 := e3.ix (e2.ix hi)
        have p3 : Post X.K X.mg c3 H2 (match c3.st[k]? with | some (.list xs) => (if decide (xs.length < 16777216) then Res.ok (W.d .non) (c3.st.set k (.list (xs ++ [y3]))) else .bad) | _ => .bad) (RW X.K) Q _ := p3
        cases es3 : c3.st[k]? with
        | none =>
          rw [es3] at p3
          exact p3.elim
        | some cell =>
          cases cell with
          | frz _ =>
            rw [es3] at p3
            exact p3.elim
          | list zs =>
            rw [es3] at p3
            obtain ⟨_, us, r2, r3⟩ := o3.cells k ad _ hi3 es3
            by_cases hz : zs.length < 16777216
            · have p3 : Post X.K X.mg c3 H2 (if decide (zs.length < 16777216) then Res.ok (W.d .non) (c3.st.set k (.list (zs ++ [y3]))) else .bad) (RW X.K) Q _ := p3
              rw [decide_eq_true hz, if_pos rfl] at p3
              obtain ⟨o4, e4⟩ := put_cell o3 hi3 es3 (r3.append (.cons d3 .nil))
              exact ⟨ad, us, y, rfl, rfl, r2, by rw [← r3.length, sizeLine_eq]; exact hz, p3 _ _ V.non rfl e4 o4 .non⟩
            · have p3 : Post X.K X.mg c3 H2 (if decide (zs.length < 16777216) then Res.ok (W.d .non) (c3.st.set k (.list (zs ++ [y3]))) else .bad) (RW X.K) Q _ := p3
              rw [decide_eq_false hz] at p3
              exact p3.elim
theorem fmt_ok {K : KF} {mg : Str → Option Value} {c : Cfg} {H : Hp} {x : D} {v : V} {s : List Nat} (sx : See K c.B H x v) (e : fmtD x = some s) : (∃ y : Str, v = .str y ∧ y.length ≤ sizeLine ∧ y = ⟨s.toArray⟩) ∨ ∃ i : Int, v = .int i ∧ i.natAbs.log2 < 1920 ∧ Str.ofString (toString i) = ⟨s.toArray⟩ := by
  cases x with
  | str t =>
    cases sx
    obtain ⟨f, rfl⟩ := if_some e
    exact .inl ⟨_, rfl, by rw [S_len]; exact fits_le f, rfl⟩
  | int i =>
    cases sx
    obtain ⟨f, rfl⟩ := if_some (show (if decide (i.natAbs.log2 < 1920) then some (intStr i) else none) = some s from e)
    exact .inr ⟨i, rfl, of_decide_eq_true f, (S_of _).symm⟩
  | _ => cases e
theorem s_fmt (ha : PE X a (vG X Wx va)) : PE X (.FormattedValue a (-1) none pos) (vG X Wx fun ρ => M.bind (va ρ) fun x => M.bind (peek x) fun x => M.bind (lift (fmtD x)) fun s => M.pure (.d (.str s))) :=
  pe_wk (pe_fmt ha) fun σ H Q ⟨c, ρ, o, e, p⟩ => (tG.bind o e rfl p).imp fun x H1 ⟨c1, w, e1, o1, er1, d1, p1⟩ => by
    obtain ⟨y, sy, p1⟩ := post_peek o1 d1 p1
    obtain ⟨s, es, p1⟩ := post_lift p1
    have q : Q (.str ⟨s.toArray⟩) H1 := p1.now (b := V.str ⟨s.toArray⟩) o1 (.str s)
    rcases fmt_ok (mg := X.mg) sy es with ⟨y, rfl, h, rfl⟩ | ⟨i, rfl, h, ei⟩
    · exact .inl ⟨_, rfl, h, q⟩
    · refine .inr ⟨i, rfl, h, ?_⟩
      show Q (.str (Str.ofString (toString i))) H1
      rw [ei]
      exact q
theorem s_parts : ∀ {es : List Expr} {ms : List Sm}, PEs X Wx es ms → ∃ ts, PJ X es ts ∧ ∀ (acc : List Nat) (σ : L2.St) (H : Hp) (c : Cfg) (ρ : Env) (Q : Str → Hp → Prop) (k : List Nat → M W) (Q' : VK), Ok X.K c H → ERel X.K c ρ σ →
      Post X.K X.mg c H (M.bind (smF ms acc ρ) k c.st) (RW X.K) Q' (fun cls da H' => Wx cls da σ H') →
      (∀ (c1 : Cfg) (H1 : Hp) (s : List Nat), Ok X.K c1 H1 → Post X.K X.mg c1 H1 (k s c1.st) (RW X.K) Q' (fun cls da H' => Wx cls da σ H') → Q ⟨s.toArray⟩ H1) → tJs ts ⟨acc.toArray⟩ σ H Q
  | _, _, .nil => ⟨[], .nil, fun acc σ H c ρ Q k Q' o e p h => h c H acc o p⟩
  | _, _, .cons (m := m) (ms := ms) _ h1 r => by
    obtain ⟨ts, pj, ih⟩ := s_parts r
    refine ⟨_ :: ts, .cons h1 pj, fun acc σ H c ρ Q k Q' o e p h => ?_⟩
    have as : M.bind (smF (m :: ms) acc ρ) k = M.bind (m.v ρ) fun w => M.bind (peek w) fun x => M.bind (lift (strD x)) fun s => M.bind (catC acc s) fun acc => M.bind (smF ms acc ρ) k := by
      show M.bind (M.bind (m.v ρ) _) _ = _
      simp only [bind_assoc']
    rw [as] at p
    refine (tG.bind o e rfl p).imp fun x H1 ⟨c1, w, e1, o1, er1, d1, p1⟩ => ?_
    obtain ⟨y, sy, p2⟩ := post_peek o1 d1 p1
    obtain ⟨s, es, p3⟩ := post_lift p2
    have p4 : Post X.K X.mg c1 H1 ((if fits (acc.length + s.length) then Res.ok (acc ++ s) c1.st else .bad).andThen fun acc => M.bind (smF ms acc ρ) k) (RW X.K) Q' _ := p3
    by_cases f : fits (acc.length + s.length) = true
    · rw [if_pos f] at p4
      have ex : x = .str ⟨s.toArray⟩ := by
        cases y with
        | str t =>
          cases sy
          cases es
          rfl
        | _ => cases es
      refine ⟨_, ex, ?_, ?_⟩
      · rw [S_app, S_len, List.length_append]
        exact fits_le f
      · rw [S_app]
        exact ih (acc ++ s) σ H1 c1 ρ Q k Q' o1 er1 p4 h
    · rw [if_neg f] at p4
      exact p4.elim
theorem s_fs (h : PEs X Wx es ms) (he : 2 ≤ es.length) : PE X (.JoinedStr es pos) (vG X Wx fun ρ => M.bind (smF ms [] ρ) fun s => M.pure (.d (.str s))) := by
  obtain ⟨ts, pj, ih⟩ := s_parts h
  have fin : ∀ (σ : L2.St) (Q : VK) (c1 : Cfg) (H1 : Hp) (s : List Nat), Ok X.K c1 H1 → Post X.K X.mg c1 H1 (M.pure (W.d (.str s)) c1.st) (RW X.K) Q (fun cls da H' => Wx cls da σ H') → Q (.str ⟨s.toArray⟩) H1 := fun σ Q c1 H1 s o p => p.now (b := V.str ⟨s.toArray⟩) o (.str s)
  cases pj with
  | nil => simp at he
  | cons h1 r =>
    cases r with
    | nil => simp at he
    | cons h2 r => exact pe_wk (pe_joined (.cons h1 (.cons h2 r))) fun σ H Q ⟨c, ρ, o, e, p⟩ => ih [] σ H c ρ (fun s H => Q (.str s) H) _ Q o e p (fin σ Q)
def tyN : Ty → String
  | .bool => "bool" | .int => "int" | .str => "str" | .list => "list" | .tuple => "tuple"
def tyS : Ty → Str
  | .bool => "bool" | .int => "int" | .str => "str" | .list => "list" | .tuple => "tuple"
theorem boot_ty : ∀ t : Ty, bootBuiltins (tyS t) = some (.type (tyN t)) := by intro t; cases t <;> decide +kernel
theorem nm_ty : ∀ t : Ty, tyS t ≠ "__name__" ∧ (tyS t == ("__debug__" : Str)) = false := by intro t; cases t <;> decide
theorem kit_tab : ∀ t : Ty, kitB "NoneType" (tyN t) = some false ∧ kitB "bool" (tyN t) = some (isID (.bool true) t) ∧ kitB "int" (tyN t) = some (isID (.int 0) t) ∧ kitB "str" (tyN t) = some (isID (.str []) t) ∧
    kitB "list" (tyN t) = some (isID (.list []) t) ∧ kitB "tuple" (tyN t) = some (isID (.tup []) t) := by intro t; cases t <;> decide +kernel
theorem isI_ty {K : KF} {c : Cfg} {H : Hp} {x : D} {v : V} (o : Ok K c H) (s : See K c.B H x v) : ∃ a : String, TyX K H v (.type a) ∧ ∀ t : Ty, kitB a (tyN t) = some (isID x t) := by
  cases x with
  | non => cases s; exact ⟨_, .base .non, fun t => by rw [(kit_tab t).1]; cases t <;> rfl⟩
  | bool b => cases s; exact ⟨_, .base (.bl b), fun t => by rw [(kit_tab t).2.1]; cases t <;> rfl⟩
  | int i => cases s; exact ⟨_, .base (.int i), fun t => by rw [(kit_tab t).2.2.1]; cases t <;> rfl⟩
  | str z => cases s; exact ⟨_, .base (.str _), fun t => by rw [(kit_tab t).2.2.2.1]; cases t <;> rfl⟩
  | list xs =>
    obtain ⟨a, vs, rfl, h, _⟩ := s
    exact ⟨_, .base (.lst h), fun t => by rw [(kit_tab t).2.2.2.2.1]; cases t <;> rfl⟩
  | tup xs =>
    cases s with
    | tup h _ => exact ⟨_, .base (.tup (o.sub _ _ h)), fun t => by rw [(kit_tab t).2.2.2.2.2]; cases t <;> rfl⟩
  | rol xs =>
    cases s with
    | rol h _ =>
      have e : ∀ t : Ty, kitB "list" (tyN t) = some (isID (.rol xs) t) := fun t => by rw [(kit_tab t).2.2.2.2.1]; cases t <;> rfl
      rcases o.sub.sql h with (h | ⟨ob, h⟩) | ⟨ob, its, n, hk, hc, _⟩
      · exact ⟨_, .base (.lst h), e⟩
      · exact ⟨_, .base (.frz h), e⟩
      · exact ⟨_, .kList hk hc, e⟩
theorem s_isI {t : Ty} {p2 : Pos} (hg : Gl X "isinstance") (hm : X.mg "isinstance" = none) (hgt : Gl X (tyS t)) (hmt : X.mg (tyS t) = none) (h1 : isStar a = false) (ha : PE X a (vG X Wx va)) :
    PE X (.Call (.Name "isinstance" p) [a, .Name (tyS t) p2] [] pos) (vG X Wx fun ρ => M.bind (va ρ) fun x => M.bind (peek x) fun x => M.pure (.d (.bool (isID x t)))) := by
  obtain ⟨n1, n2⟩ := nm_ty t
  have hty : PE X (.Name (tyS t) p2) (tC (.ty (tyN t))) := pe_bltn hgt hmt (boot_ty t) rfl n1 n2
  refine pe_wk (pe_callB call_isi hg hm PyProof.Rows.boot_isinstance (pa_cons ha (pa_cons hty pa_nil) (star_ne h1)) (by decide) (by decide) (star_ne h1) rfl) fun σ H Q ⟨c, ρ, o, e, p⟩ => (tG.bind o e rfl p).imp fun x H1 ⟨c1, w, e1, o1, er1, d1, p1⟩ => ?_
  obtain ⟨y, sy, p2⟩ := post_peek o1 d1 p1
  obtain ⟨ty, h, k⟩ := isI_ty o1 sy
  exact ⟨x, .ty (tyN t), .type ty, .type (tyN t), isID y t, rfl, .ty _, h, kit_ty (k t), p2.now (b := V.bl _) o1 (.bool _)⟩
end
end Cr

namespace Cr
open PySem L2
section
variable {K : KF} {c : Cfg} {H : Hp}
theorem walksL {a : Addr} {xs : List D} {vs : List V} (h : SqL K c.B a vs) (l : DenL K c.B xs vs) : Walks K (Itl K a) c H xs := fun i c' H' e o => by
  have h1 : SqL K H' a vs := o.sub.sql (e.exB.sql h)
  refine ⟨fun hi => ⟨vs, h1, by rw [← l.length, hi]; exact Nat.le_refl _⟩, fun x hx => ?_⟩
  obtain ⟨v, hv, dv⟩ := l.get hx
  refine ⟨⟨vs, v, h1, hv⟩, fun v2 H2 hy => ?_⟩
  obtain ⟨rfl, hy⟩ := hy
  have ev : v2 = v := Option.some.inj ((hy vs h1).symm.trans hv)
  subst ev
  exact ⟨c', rfl, Ext.refl _ _, o, Den.mono e.exB dv⟩
theorem walksT {a : Addr} {xs : List D} {vs : List V} (h : SqT K c.B a vs) (l : DenL K c.B xs vs) : Walks K (Itt K a) c H xs := fun i c' H' e o => by
  have h1 : SqT K H' a vs := o.sub.sqt (e.exB.sqt h)
  refine ⟨fun hi => ⟨vs, h1, by rw [← l.length, hi]; exact Nat.le_refl _⟩, fun x hx => ?_⟩
  obtain ⟨v, hv, dv⟩ := l.get hx
  refine ⟨⟨vs, v, h1, hv⟩, fun v2 H2 hy => ?_⟩
  obtain ⟨rfl, hy⟩ := hy
  have ev : v2 = v := Option.some.inj ((hy vs h1).symm.trans hv)
  subst ev
  exact ⟨c', rfl, Ext.refl _ _, o, Den.mono e.exB dv⟩
theorem walksS {s : List Nat} : Walks K (Its ⟨s.toArray⟩) c H (s.map fun ch => .str [ch]) := fun i c' H' e o => by
  refine ⟨fun hi => ?_, fun x hx => ?_⟩
  · show (s.toArray).size ≤ i
    simp [hi]
  · rw [List.getElem?_map] at hx
    obtain ⟨ch, hc, rfl⟩ := Option.map_eq_some_iff.mp hx
    have hl := (List.getElem?_eq_some_iff.mp hc).1
    refine ⟨by show i < s.toArray.size; simpa using hl, fun v2 H2 hy => ?_⟩
    obtain ⟨rfl, c2, h2, rfl⟩ := hy
    have h2 : s.toArray[i]? = some c2 := h2
    rw [List.getElem?_toArray, hc] at h2
    cases h2
    exact ⟨c', rfl, Ext.refl _ _, o, .str [ch]⟩
theorem walksR {lo : Int} {n : Nat} : Walks K (Itr lo n) c H (rangeL lo n) := fun i c' H' e o => by
  refine ⟨fun hi => by show n ≤ i; simp [rangeL] at hi; omega, fun x hx => ?_⟩
  unfold rangeL at hx
  rw [List.getElem?_map] at hx
  obtain ⟨k, hk, rfl⟩ := Option.map_eq_some_iff.mp hx
  obtain ⟨hl, hk⟩ := List.getElem?_eq_some_iff.mp hk
  rw [List.length_range] at hl
  rw [List.getElem_range] at hk
  subst hk
  refine ⟨hl, fun v2 H2 hy => ?_⟩
  obtain ⟨rfl, rfl⟩ := hy
  exact ⟨c', rfl, Ext.refl _ _, o, .int _⟩
theorem walksRC {lo st : Int} {n : Nat} : Walks K (Itc lo st n) c H ((List.range n).map fun (k : Nat) => D.int (lo + (k : Int) * st)) := fun i c' H' e o => by
  refine ⟨fun hi => by show n ≤ i; simp at hi; omega, fun x hx => ?_⟩
  rw [List.getElem?_map] at hx
  obtain ⟨k, hk, rfl⟩ := Option.map_eq_some_iff.mp hx
  obtain ⟨hl, hk⟩ := List.getElem?_eq_some_iff.mp hk
  rw [List.length_range] at hl
  rw [List.getElem_range] at hk
  subst hk
  refine ⟨hl, fun v2 H2 hy => ?_⟩
  obtain ⟨rfl, rfl⟩ := hy
  exact ⟨c', rfl, Ext.refl _ _, o, .int _⟩
theorem walksE {a : Addr} {xs : List D} {vs : List V} (h : SqL K c.B a vs) (l : DenL K c.B xs vs) : Walks K (Ite K a) c H (enumL xs) := fun i c' H' e o => by
  have h1 : SqL K H' a vs := o.sub.sql (e.exB.sql h)
  refine ⟨fun hi => ⟨vs, h1, by rw [← l.length, hi]; simp [enumL]⟩, fun x hx => ?_⟩
  unfold enumL at hx
  rw [List.getElem?_map] at hx
  obtain ⟨p, hp, rfl⟩ := Option.map_eq_some_iff.mp hx
  rw [List.getElem?_zipIdx] at hp
  obtain ⟨y, hy, rfl⟩ := Option.map_eq_some_iff.mp hp
  obtain ⟨v, hv, dv⟩ := l.get hy
  refine ⟨⟨vs, v, h1, hv⟩, fun v2 H2 hy2 => ?_⟩
  obtain ⟨T, z, rfl, hT, rfl, hz⟩ := hy2
  have ev : z = v := Option.some.inj ((hz vs h1).symm.trans hv)
  subst ev
  obtain ⟨o2, e2⟩ := new_data (o := HO.tup [.int (i : Nat), z]) o hT
  refine ⟨⟨upd c'.B T (.tup [.int (i : Nat), z]), c'.pl, c'.st⟩, rfl, e2, o2, .tup upd_same (.cons ?_ (.cons (Den.mono (e.exB.trans e2.exB) dv) .nil))⟩
  have : ((0 + i : Nat) : Int) = (i : Int) := by omega
  show Den K _ (D.int ((0 + i : Nat) : Int)) _
  rw [this]
  exact .int _
theorem walksZ {a b : Addr} {xs ys : List D} {vs us : List V} (h : SqL K c.B a vs) (l : DenL K c.B xs vs) (h' : SqL K c.B b us) (l' : DenL K c.B ys us) : Walks K (Itz K a b) c H (zipL xs ys) := fun i c' H' e o => by
  have h1 : SqL K H' a vs := o.sub.sql (e.exB.sql h)
  have h2 : SqL K H' b us := o.sub.sql (e.exB.sql h')
  refine ⟨fun hi => ⟨vs, us, h1, h2, ?_⟩, fun x hx => ?_⟩
  · have q : i = min xs.length ys.length := by simpa [zipL] using hi
    rw [← l.length, ← l'.length]
    omega
  unfold zipL at hx
  rw [List.getElem?_map] at hx
  obtain ⟨p, hp, rfl⟩ := Option.map_eq_some_iff.mp hx
  obtain ⟨hp1, hp2⟩ := List.getElem?_zip_eq_some.mp hp
  obtain ⟨v, hv, dv⟩ := l.get hp1
  obtain ⟨u, hu, du⟩ := l'.get hp2
  refine ⟨⟨vs, us, v, u, h1, h2, hv, hu⟩, fun v2 H2 hy2 => ?_⟩
  obtain ⟨T, z, z2, rfl, hT, rfl, hz, hz2⟩ := hy2
  have ev : z = v := Option.some.inj ((hz vs h1).symm.trans hv)
  have eu : z2 = u := Option.some.inj ((hz2 us h2).symm.trans hu)
  subst ev
  subst eu
  obtain ⟨o2, e2⟩ := new_data (o := HO.tup [z, z2]) o hT
  exact ⟨⟨upd c'.B T (.tup [z, z2]), c'.pl, c'.st⟩, rfl, e2, o2, .tup upd_same (.cons (Den.mono (e.exB.trans e2.exB) dv) (.cons (Den.mono (e.exB.trans e2.exB) du) .nil))⟩
end
section
variable {X : Cx} {Wx : WX} {tg a b e : Expr} {es : List Expr} {pos p : Pos} {ms : List Sm} {va vb : Env → M W}
/-- a list, a tuple, a text: by what the value is -/
theorem s_walk (ha : PE X a (vG X Wx va)) : PI X tg a (iG X Wx (vI va)) := by
  refine pi_wk (pi_or (pi_list ha) (pi_or (pi_tup ha) (pi_str ha))) fun σ H R ⟨c, ρ, o, e, p⟩ => ?_
  have p : Post X.K X.mg c H ((va ρ c.st).andThen fun w => M.bind (freeze w) fun x => lift (walkD x)) (RI X.K) R _ := p
  have go : ∀ {Q : VK}, (∀ c1 H1 w v, (va ρ c.st) = .ok w c1.st → Ext c H c1 H1 → Ok X.K c1 H1 → WDen X.K c1 w v → Q v H1) → (∀ x d st, va ρ c.st = .exc x d st → ∀ c' H' cls da, c'.st = st → Ext c H c' H' → Ok X.K c' H' → XR X.K X.mg c'.B x d cls da → Wx cls da σ H') → va ρ c.st ≠ .bad → vG X Wx va σ H Q := fun {Q} h1 h2 h3 => by
    refine ⟨c, ρ, o, e, ?_⟩
    cases r : va ρ c.st with
    | bad => exact absurd r h3
    | exc x d st => exact h2 x d st r
    | ok w st =>
      intro c1 H1 v q1 q2 q3 q4
      exact h1 c1 H1 w v (by rw [q1]; exact r) q2 q3 q4
  cases r : va ρ c.st with
  | bad =>
    rw [r] at p
    exact p.elim
  | exc x d st =>
    rw [r] at p
    refine .inl (go (fun c1 H1 w v h => by rw [r] at h; cases h) (fun x' d' st' h => ?_) (by rw [r]; intro h; cases h))
    rw [r] at h
    cases h
    exact p
  | ok w st =>
    rw [r] at p
    have cont : ∀ {Q : VK}, (∀ c1 H1 v x, c1.st = st → Ok X.K c1 H1 → WDen X.K c1 w v → (∃ c2, freeze w st = .ok x c2.st ∧ Ext c1 H1 c2 H1 ∧ Ok X.K c2 H1 ∧ Den X.K c2.B x v ∧ Post X.K X.mg c2 H1 (lift (walkD x) c2.st) (RI X.K) R (fun cls da H' => Wx cls da σ H')) → Q v H1) → vG X Wx va σ H Q := fun {Q} h => by
      refine go (fun c1 H1 w' v h1 h2 h3 h4 => ?_) (fun x d st' h => by rw [r] at h; cases h) (by rw [r]; intro h; cases h)
      rw [r] at h1
      cases h1
      have p1 : Post X.K X.mg c1 H1 ((freeze w c1.st).andThen fun x => lift (walkD x)) (RI X.K) R (fun cls da H' => Wx cls da σ H') := Post.later h3 h2 p
      cases fz : freeze w c1.st with
      | bad =>
        rw [fz] at p1
        exact p1.elim
      | exc x d st2 => cases w <;> (unfold freeze at fz; split at fz <;> first | cases fz | (split at fz <;> cases fz))
      | ok x st2 =>
        rw [fz] at p1
        obtain ⟨c2, z, e2, o2, d2⟩ := freeze_ok h3 h4 fz
        subst z
        exact h c1 H1 v x rfl h3 h4 ⟨c2, fz, e2, o2, d2, Post.later o2 e2 p1⟩
    -- the kind of data is the same in every run
    have kind : ∀ x st2, freeze w st = .ok x st2 → iList X.K (vG X Wx va) σ H R ∨ iTup X.K (vG X Wx va) σ H R ∨ iStr (vG X Wx va) σ H R := fun x st2 fz => by
      cases x with
      | list xs =>
        refine .inl (cont fun c1 H1 v y h1 h3 h4 ⟨c2, f2, e2, o2, d2, p2⟩ => ?_)
        rw [fz] at f2
        cases f2
        cases d2 with
        | list hb l => exact ⟨_, rfl, ⟨_, o2.sub.sql (SqL.of hb)⟩, p2.now (b := Itl X.K _) o2 (walksL (SqL.of hb) l)⟩
      | rol xs =>
        refine .inl (cont fun c1 H1 v y h1 h3 h4 ⟨c2, f2, e2, o2, d2, p2⟩ => ?_)
        rw [fz] at f2
        cases f2
        cases d2 with
        | rol hb l => exact ⟨_, rfl, ⟨_, o2.sub.sql hb⟩, p2.now (b := Itl X.K _) o2 (walksL hb l)⟩
      | tup xs =>
        refine .inr (.inl (cont fun c1 H1 v y h1 h3 h4 ⟨c2, f2, e2, o2, d2, p2⟩ => ?_))
        rw [fz] at f2
        cases f2
        cases d2 with
        | tup hb l => exact ⟨_, rfl, ⟨_, o2.sub.sqt (SqT.of hb)⟩, p2.now (b := Itt X.K _) o2 (walksT (SqT.of hb) l)⟩
      | str s =>
        refine .inr (.inr (cont fun c1 H1 v y h1 h3 h4 ⟨c2, f2, e2, o2, d2, p2⟩ => ?_))
        rw [fz] at f2
        cases f2
        cases d2
        have p2 : Post X.K X.mg c2 H1 ((lift (if fits s.length then some (s.map fun c => D.str [c]) else none)) c2.st) (RI X.K) R _ := p2
        by_cases f : fits s.length = true
        · rw [if_pos f] at p2
          exact ⟨_, rfl, p2.now (b := Its _) o2 walksS⟩
        · rw [if_neg f] at p2
          exact p2.elim
      | non => exact .inl (cont fun c1 H1 v y h1 h3 h4 ⟨c2, f2, e2, o2, d2, p2⟩ => by rw [fz] at f2; cases f2; exact p2.elim)
      | bool _ => exact .inl (cont fun c1 H1 v y h1 h3 h4 ⟨c2, f2, e2, o2, d2, p2⟩ => by rw [fz] at f2; cases f2; exact p2.elim)
      | int _ => exact .inl (cont fun c1 H1 v y h1 h3 h4 ⟨c2, f2, e2, o2, d2, p2⟩ => by rw [fz] at f2; cases f2; exact p2.elim)
    cases fz : freeze w st with
    | ok x st2 => exact kind x st2 fz
    | bad =>
      have p : Post X.K X.mg c H ((freeze w st).andThen fun x => lift (walkD x)) (RI X.K) R _ := p
      rw [fz] at p
      exact p.elim
    | exc x d st2 => cases w <;> (unfold freeze at fz; split at fz <;> first | cases fz | (split at fz <;> cases fz))
theorem smL_len : ∀ {ms : List Sm} {ρ : Env} {s s' : Store} {ws : List W}, smL ms ρ s = .ok ws s' → ws.length = ms.length
  | [], _, _, _, _, h => by cases h; rfl
  | m :: ms, ρ, s, s', ws, h => by
    have h : ((m.v ρ s).andThen fun w => M.bind (smL ms ρ) fun ws => M.pure (w :: ws)) = .ok ws s' := h
    cases r : m.v ρ s with
    | bad => rw [r] at h; cases h
    | exc _ _ _ => rw [r] at h; cases h
    | ok w s1 =>
      rw [r] at h
      have h : ((smL ms ρ s1).andThen fun ws => M.pure (w :: ws)) = .ok ws s' := h
      cases r2 : smL ms ρ s1 with
      | bad => rw [r2] at h; cases h
      | exc _ _ _ => rw [r2] at h; cases h
      | ok us s2 =>
        rw [r2] at h
        cases h
        exact congrArg (· + 1) (smL_len r2)
theorem SeeL.length {K : KF} {B H : Hp} : ∀ {xs : List D} {vs : List V}, SeeL K B H xs vs → xs.length = vs.length
  | _, _, .nil => rfl
  | _, _, .cons _ l => congrArg (· + 1) (SeeL.length l)
theorem range_len {c : Cfg} {H : Hp} {σ : L2.St} {R : It → Hp → Prop} (q : iG X Wx (fun ρ => M.bind (smL ms ρ) fun ws => M.bind (peeks ws) fun xs => lift (rangeD xs)) σ H R) :
    lG X Wx (smL ms) σ H fun vs H1 => ∃ c1 xs, Ok X.K c1 H1 ∧ SeeL X.K c1.B H1 xs vs ∧ xs.length = ms.length ∧ ∃ ys, rangeD xs = some ys ∧ ∀ J, Walks X.K J c1 H1 ys → R J H1 := by
  obtain ⟨c, ρ, o, e, p⟩ := q
  refine (tG.bindE o e rfl p).imp fun vs H1 ⟨c1, ws, e0, e1, o1, er1, d1, p1⟩ => ?_
  obtain ⟨xs, sx, p2⟩ := post_peeks o1 d1 p1
  refine ⟨c1, xs, o1, sx, ?_, ?_⟩
  · rw [sx.length, ← d1.length, smL_len e0]
  · cases er : rangeD xs with
    | none =>
      rw [er] at p2
      exact p2.elim
    | some ys =>
      rw [er] at p2
      exact ⟨ys, rfl, fun J w => p2.now (b := J) o1 w⟩
theorem see_int {K : KF} {B H : Hp} {x : D} {v : V} {i : Int} (s : See K B H x v) (e : x = .int i) : v = .int i := by
  subst e
  cases s
  rfl
theorem s_range (hg : Gl X "range") (hm : X.mg "range" = none) (hl : es.length ≤ 3) (h : PEs X Wx es ms) : PI X tg (.Call (.Name "range" p) es [] pos) (iG X Wx fun ρ => M.bind (smL ms ρ) fun ws => M.bind (peeks ws) fun xs => lift (rangeD xs)) := by
  have small : ∀ {j : Int}, small62 j = true → -(2 ^ 62) ≤ j ∧ j < 2 ^ 62 := fun {j} h => of_decide_eq_true h
  cases h with
  | nil => exact pi_none fun σ H Q ⟨c, ρ, o, e, p⟩ => p.elim
  | @cons e1 es1 m1 ms1 h1 k1 r1 =>
    cases r1 with
    | nil =>
      refine pi_wk (pi_range1 hg hm (s_args (.cons h1 k1 .nil)) (star_ne h1)) fun σ H R q => (range_len (c := ⟨H, [], []⟩) (H := H) q).imp fun vs H1 ⟨c1, xs, o1, sx, hl, ys, er, k⟩ => ?_
      match xs, sx, hl, er with
      | [x], .cons s1 .nil, _, er =>
        cases x with
        | int j =>
          obtain ⟨f, rfl⟩ := if_some (show (if small62 j then some (rangeL 0 j.toNat) else none) = some ys from er)
          obtain ⟨f1, f2⟩ := small f
          cases s1
          exact ⟨j, rfl, f1, f2, k _ walksR⟩
        | _ => cases er
    | @cons e2 es2 m2 ms2 h2 k2 r2 =>
      cases r2 with
      | nil =>
        refine pi_wk (pi_range2 hg hm (s_args (.cons h1 k1 (.cons h2 k2 .nil))) (by rw [star_ne h1, star_ne h2]; rfl) (by rw [star_ne h2]; rfl)) fun σ H R q => (range_len (c := ⟨H, [], []⟩) (H := H) q).imp fun vs H1 ⟨c1, xs, o1, sx, hl, ys, er, k⟩ => ?_
        match xs, sx, hl, er with
        | [x, y], .cons s1 (.cons s2 .nil), _, er =>
          cases x with
          | int i =>
            cases y with
            | int j =>
              obtain ⟨f, rfl⟩ := if_some (show (if small62 i && small62 j then some (rangeL i (j - i).toNat) else none) = some ys from er)
              obtain ⟨fi, fj⟩ := and2 f
              obtain ⟨f1, f2⟩ := small fi
              obtain ⟨f3, f4⟩ := small fj
              cases s1
              cases s2
              exact ⟨i, j, rfl, ⟨f1, f2, f3, f4⟩, k _ walksR⟩
            | _ => cases er
          | _ => cases er
      | @cons e3 es3 m3 ms3 h3 k3 r3 =>
        cases r3 with
        | nil =>
          refine pi_wk (pi_range3 hg hm (s_args (.cons h1 k1 (.cons h2 k2 (.cons h3 k3 .nil)))) (star_ne h1) (star_plain (PEs.plain (.cons h2 k2 (.cons h3 k3 .nil))))) fun σ H R q => (range_len (c := ⟨H, [], []⟩) (H := H) q).imp fun vs H1 ⟨c1, xs, o1, sx, hl, ys, er, k⟩ => ?_
          match xs, sx, hl, er with
          | [x, y, z], .cons s1 (.cons s2 (.cons s3 .nil)), _, er =>
            cases x with
            | int i =>
              cases y with
              | int j =>
                cases z with
                | int st =>
                  obtain ⟨f, rfl⟩ := if_some (show (if decide (st ≠ 0) && decide (st.natAbs < 1073741824) && Builtin.Range.small i j st && decide (0 ≤ Builtin.Range.rangeSize i j st) then some (rangeC i j st) else none) = some ys from er)
                  obtain ⟨f, f4⟩ := and2 f
                  obtain ⟨f1, f2, f3⟩ := and3 f
                  cases s1
                  cases s2
                  cases s3
                  exact ⟨i, j, st, rangeN i j st, rfl, ⟨of_decide_eq_true f1, of_decide_eq_true f2, f3, (Int.toNat_of_nonneg (of_decide_eq_true f4)).symm⟩, k _ walksRC⟩
                | _ => cases er
              | _ => cases er
            | _ => cases er
        | @cons e4 es4 m4 ms4 h4 k4 r4 => simp at hl
theorem s_enum {elts : List Expr} {kk : Nat} {tpos : Pos} (hg : Gl X "enumerate") (hm : X.mg "enumerate" = none) (h1 : isStar a = false) (ha : PE X a (vG X Wx va)) :
    PI X (.Tuple elts kk tpos) (.Call (.Name "enumerate" p) [a] [] pos) (iG X Wx fun ρ => M.bind (va ρ) fun w => M.bind (freeze w) fun x => match x with
      | .list xs => M.pure (enumL xs)
      | _ => M.bad) := by
  refine pi_wk (pi_enum hg hm (pa_cons ha pa_nil (star_ne h1)) (star_ne h1)) fun σ H R ⟨c, ρ, o, e, p⟩ => (tG.bind o e rfl p).imp fun v H1 ⟨c1, w, e1, o1, er1, d1, p1⟩ => ?_
  obtain ⟨c2, x, e2, o2, d2, p2⟩ := post_freeze o1 d1 p1
  cases d2 with
  | list hb l => exact ⟨_, _, rfl, o2.sub.sql (SqL.of hb), p2.now (b := Ite X.K _) o2 (walksE (SqL.of hb) l)⟩
  | _ => exact p2.elim
theorem s_zip {elts : List Expr} {kk : Nat} {tpos : Pos} (hg : Gl X "zip") (hm : X.mg "zip" = none) (h1 : isStar a = false) (h2 : isStar b = false) (ha : PE X a (vG X Wx va)) (hb : PE X b (vG X Wx vb)) :
    PI X (.Tuple elts kk tpos) (.Call (.Name "zip" p) [a, b] [] pos) (iG X Wx fun ρ => M.bind (va ρ) fun w => M.bind (vb ρ) fun u => M.bind (freeze w) fun x => M.bind (freeze u) fun y => match x, y with
      | .list xs, .list ys => M.pure (zipL xs ys)
      | _, _ => M.bad) := by
  refine pi_wk (pi_zip hg hm (pa_cons ha (pa_cons hb pa_nil (star_ne h2)) (star_ne h1)) (star_ne h1) (by rw [star_ne h2]; rfl)) fun σ H R ⟨c, ρ, o, e, p⟩ => (tG.bind o e rfl p).imp fun v H1 ⟨c1, w, e1, o1, er1, d1, p1⟩ => (tG.bind o1 er1 rfl p1).imp fun u H2 ⟨c2, w2, e2, o2, er2, d2, p2⟩ => ?_
  obtain ⟨c3, x, e3, o3, d3, p3⟩ := post_freeze o2 (d1.mono e2) p2
  obtain ⟨c4, y, e4, o4, d4, p4⟩ := post_freeze o3 (d2.mono e3) p3
  cases d3 with
  | list hb l =>
    cases d4 with
    | list hb2 l2 => exact ⟨_, _, _, _, rfl, o4.sub.sql (SqL.of (e4.exB _ _ hb)), o4.sub.sql (SqL.of hb2), p4.now (b := Itz X.K _ _) o4 (walksZ (SqL.of (e4.exB _ _ hb)) (l.mono e4.exB) (SqL.of hb2) l2)⟩
    | _ => exact p4.elim
  | _ => exact p4.elim
theorem peek_st {w : W} {x : D} {s s' : Store} (h : peek w s = .ok x s') : s' = s := by
  cases w with
  | d y =>
    cases h
    rfl
  | ref n =>
    have h : (match s[n]? with | some (.list xs) => Res.ok (D.list xs) s | some (.frz d) => .ok d s | none => .bad) = .ok x s' := h
    cases e : s[n]? with
    | none =>
      rw [e] at h
      cases h
    | some cell =>
      rw [e] at h
      cases cell <;> (cases h; rfl)
def tRevS (te : TE) : TE := fun σ H Q => te σ H fun x H1 => ∃ z : Str, x = .str z ∧ z.length ≤ sizeLine ∧ Q (.str ⟨z.cps.toList.reverse.toArray⟩) H1
theorem rev_list (l : List Nat) : ((List.range l.length).map fun k => l.toArray.getD (l.length - 1 - k) 0) = l.reverse := by
  apply List.ext_getElem
  · simp
  · intro i h1 h2
    have hi : i < l.length := by simpa using h1
    have hj : l.length - 1 - i < l.length := by omega
    rw [List.getElem_map, List.getElem_range, List.getElem_reverse]
    simp [Array.getD, hj]
theorem pe_revS {te : TE} {j : Nat} {p1 p2 p3 : Pos} (he : PE X e te) : PE X (.Subscript e (.Slice none none (some (.UnaryOp .USub (.Constant (.int 1) j p1) p2)) p3) pos) (tRevS te) := by
  constructor
  intro pins s σ H Q I h
  apply PyProof.Rows.Subscript_
  refine thn (he.run pins s σ H _ I h) ?_
  rintro v s1 ⟨x, H1, I1, r1, z, rfl, hz, q⟩
  obtain ⟨t, rfl⟩ := r1
  have hst : PO X (some (.UnaryOp .USub (.Constant (.int 1) j p1) p2)) (tPart (tUn (rU fun i => .int (-i)) (tC (.int 1)))) := po_some (pe_un un_neg pe_int)
  apply PySem.wpAny_Slice
  refine thn (po_none.run pins s1 σ H1 (fun o H2 => o = none ∧ H2 = H1) I1 ⟨rfl, rfl⟩) ?_
  rintro vl s2 ⟨l, H2, I2, pl, rfl, rfl⟩
  refine thn (po_none.run pins s2 σ H2 (fun o H3 => o = none ∧ H3 = H2) I2 ⟨rfl, rfl⟩) ?_
  rintro vu s3 ⟨u, H3, I3, pu, rfl, rfl⟩
  refine thn (hst.run pins s3 σ H3 (fun o H4 => o = some (-1) ∧ H4 = H3) I3 ⟨1, rfl, -1, rfl, rfl, rfl⟩) ?_
  rintro vs s4 ⟨o, H4, I4, ps, rfl, rfl⟩
  cases pl
  cases pu
  cases ps with
  | int _ tk =>
  apply PyProof.Rows.tail_any (T := "str") (typeIs_str _ _ _) PySem.F.slot_str_getitem.lookup (hs := by with_unfolding_all rfl) (ops := [.str z t, .ref s4.heap.objs.size])
  refine PySem.wpAny_getItem_str_slice (l := none) (u := none) (st := some (-1, tk)) ⟨_, Heap.get?_push_size _ rfl, rfl, rfl⟩ rfl ?_
  have ez : PySem.Txt.sliceBy z none none (-1, tk) = ⟨z.cps.toList.reverse.toArray⟩ := by
    apply TL.ext_tl
    show (PySem.Txt.sliceBy z none none (-1, tk)).cps.toList = _
    rw [PyProof.Rows.step_rev_list, ← rev_list z.cps.toList]
    rfl
  show Made.post (Made.str (PySem.Txt.sliceBy z none none (-1, tk))) _ _
  rw [ez]
  refine ⟨?_, .str _, H4, ?_, ⟨_, rfl⟩, q⟩
  · show (z.cps.toList.reverse.toArray).size ≤ sizeLine
    have : z.length = z.cps.size := rfl
    simp
    omega
  · exact (I4.kept (t' := s4.toks) fun b ob q => Heap.get?_push_of_some _ q).tok _
theorem DenL.reverse {K : KF} {B : Hp} : ∀ {xs : List D} {vs : List V}, DenL K B xs vs → DenL K B xs.reverse vs.reverse
  | _, _, .nil => .nil
  | _, _, .cons h l => by
    rw [List.reverse_cons, List.reverse_cons]
    exact (DenL.reverse l).append (.cons h .nil)
theorem s_rev {j : Nat} {p1 p2 p3 : Pos} (ha : PE X a (vG X Wx va)) :
    PE X (.Subscript a (.Slice none none (some (.UnaryOp .USub (.Constant (.int 1) j p1) p2)) p3) pos) (vG X Wx fun ρ => M.bind (va ρ) fun x => M.bind (peek x) fun x => M.bind (lift (revD x)) fun z => alloc false z) := by
  refine ⟨fun pins s σ H Q I ⟨c, ρ, o, e, p⟩ => ?_⟩
  have p : Post X.K X.mg c H ((va ρ c.st).andThen fun w => M.bind (peek w) fun x => M.bind (lift (revD x)) fun z => alloc false z) (RW X.K) Q _ := p
  -- what the text's and the list's ways ask, by the outcome
  have go : ∀ {Q' : VK}, (∀ c1 H1 w v x, va ρ c.st = .ok w c1.st → Ok X.K c1 H1 → WDen X.K c1 w v → See X.K c1.B H1 x v → peek w c1.st = .ok x c1.st → Post X.K X.mg c1 H1 (M.bind (lift (revD x)) (fun z => alloc false z) c1.st) (RW X.K) Q (fun cls da H' => Wx cls da σ H') → Q' v H1) → vG X Wx va σ H Q' := fun {Q'} h => by
    refine ⟨c, ρ, o, e, ?_⟩
    show Post X.K X.mg c H (va ρ c.st) _ _ _
    cases r : va ρ c.st with
    | bad =>
      rw [r] at p
      exact p.elim
    | exc x d st =>
      rw [r] at p
      exact p
    | ok w st =>
      rw [r] at p
      intro c1 H1 v q1 q2 q3 q4
      subst q1
      have p1 : Post X.K X.mg c1 H1 ((peek w c1.st).andThen fun x => M.bind (lift (revD x)) fun z => alloc false z) (RW X.K) Q (fun cls da H' => Wx cls da σ H') := Post.later q3 q2 p
      cases fz : peek w c1.st with
      | bad =>
        rw [fz] at p1
        exact p1.elim
      | exc x d st2 => cases w <;> (unfold peek at fz; split at fz <;> first | cases fz | (split at fz <;> cases fz))
      | ok x st2 =>
        rw [fz] at p1
        have est : st2 = c1.st := peek_st fz
        subst est
        obtain ⟨y, sy, py⟩ := post_peek (k := fun y s => if True then Res.ok y s else .bad) (R := fun c' _ (a b : D) => a = b) (Q := fun y' H' => y' = x) (E := fun _ _ _ => True) q3 q4 (by
          show Post X.K X.mg c1 H1 ((peek w c1.st).andThen _) _ _ _
          rw [fz]
          intro c' H' b _ _ _ hb
          exact hb.symm)
        have ey : y = x := py c1 H1 y rfl (Ext.refl _ _) q3 rfl
        subst ey
        exact h c1 H1 w v y r q3 q4 sy fz p1
  cases r : va ρ c.st with
  | bad =>
    rw [r] at p
    exact p.elim
  | exc x d st => exact (pe_revL ha).run pins s σ H Q I (go fun c1 H1 w v x h => by rw [r] at h; cases h)
  | ok w st =>
    cases fz : peek w st with
    | bad =>
      have p : Post X.K X.mg c H ((va ρ c.st).andThen fun w => M.bind (peek w) fun x => M.bind (lift (revD x)) fun z => alloc false z) (RW X.K) Q _ := p
      rw [r] at p
      have p : Post X.K X.mg c H ((peek w st).andThen fun x => M.bind (lift (revD x)) fun z => alloc false z) (RW X.K) Q _ := p
      rw [fz] at p
      exact p.elim
    | exc x d st2 => cases w <;> (unfold peek at fz; split at fz <;> first | cases fz | (split at fz <;> cases fz))
    | ok x0 st2 =>
      have same : ∀ {c1 : Cfg} {w' : W} {x : D}, va ρ c.st = .ok w' c1.st → peek w' c1.st = .ok x c1.st → x = x0 := fun {c1 w' x} h1 h2 => by
        rw [r] at h1
        cases h1
        rw [fz] at h2
        cases h2
        rfl
      cases x0 with
      | str t =>
        refine (pe_revS ha).run pins s σ H Q I (go fun c1 H1 w' v x h1 o1 d1 sx h2 p1 => ?_)
        have ex := same h1 h2
        subst ex
        cases sx
        obtain ⟨z, ez, p2⟩ := post_lift p1
        obtain ⟨f, rfl⟩ := if_some ez
        exact ⟨_, rfl, by rw [S_len]; exact fits_le f, alloc_old o1 (by intro _ z; cases z) p2 (.str _)⟩
      | list ys =>
        refine (pe_revL ha).run pins s σ H Q I (go fun c1 H1 w' v x h1 o1 d1 sx h2 p1 => ?_)
        have ex := same h1 h2
        subst ex
        obtain ⟨pa, vs, rfl, hh, l⟩ := sx
        obtain ⟨z, ez, p2⟩ := post_lift p1
        cases ez
        exact ⟨pa, vs, rfl, SqL.of hh, alloc_new o1 p2 l.reverse⟩
      | rol ys =>
        refine (pe_revL ha).run pins s σ H Q I (go fun c1 H1 w' v x h1 o1 d1 sx h2 p1 => ?_)
        have ex := same h1 h2
        subst ex
        obtain ⟨z, ez, p2⟩ := post_lift p1
        cases ez
        cases sx with
        | rol hh l => exact ⟨_, _, rfl, o1.sub.sql hh, alloc_new o1 p2 l.reverse⟩
      | _ =>
        refine (pe_revL ha).run pins s σ H Q I (go fun c1 H1 w' v x h1 o1 d1 sx h2 p1 => ?_)
        have ex := same h1 h2
        subst ex
        exact p1.elim
end
end Cr

namespace Cr
open PySem L2
mutual
def Pt.slots : Pt → List Nat
  | .name i => [i]
  | .tup ps => Pts.slots ps
def Pts.slots : List Pt → List Nat
  | [] => []
  | p :: ps => Pt.slots p ++ Pts.slots ps
end
/-- σ' differs from σ at these places alone -/
def Off (is : List Nat) (σ σ' : L2.St) : Prop := σ'.length = σ.length ∧ ∀ j, j ∉ is → σ'[j]? = σ[j]?
theorem Off.refl (is : List Nat) (σ : L2.St) : Off is σ σ := ⟨rfl, fun _ _ => rfl⟩
theorem Off.trans {is js : List Nat} {σ σ1 σ2 : L2.St} (a : Off is σ σ1) (b : Off js σ1 σ2) : Off (is ++ js) σ σ2 := ⟨b.1.trans a.1, fun j h => by
  rw [b.2 j fun z => h (List.mem_append_right _ z), a.2 j fun z => h (List.mem_append_left _ z)]⟩
/-- a target's reading -/
def gP (K : KF) (p : Pt) : TG := fun v σ H Q => ∃ c ρ w ρ', Ok K c H ∧ ERel K c ρ σ ∧ WDen K c w v ∧ bindPt p w ρ = some ρ' ∧ ∀ σ', ERel K c ρ' σ' → Off p.slots σ σ' → Q σ' H
def gPs (K : KF) (ps : List Pt) : TGs := fun vs σ H Q => ∃ c ρ xs ρ', Ok K c H ∧ ERel K c ρ σ ∧ DenL K c.B xs vs ∧ bindPts ps xs ρ = some ρ' ∧ ∀ σ', ERel K c ρ' σ' → Off (Pts.slots ps) σ σ' → Q σ' H
theorem pg_wk {X : Cx} {e : Expr} {t t' : TG} (h : PG X e t) (w : ∀ v σ H Q, t' v σ H Q → t v σ H Q) : PG X e t' := ⟨fun pins s σ H v u Q I r q => h.run pins s σ H v u Q I r (w v σ H Q q)⟩
theorem pgs_wk {X : Cx} {e : List Expr} {t t' : TGs} (h : PGs X e t) (w : ∀ v σ H Q, t' v σ H Q → t v σ H Q) : PGs X e t' := ⟨fun pins s σ H v u Q I r q => h.run pins s σ H v u Q I r (w v σ H Q q)⟩
section
variable {X : Cx} {pos : Pos}
theorem s_name {i : Nat} {x : Str} (hN : X.N.Nodup) (hi : X.N[i]? = some x) (hx : Loc X.env.scope x) (hf : X.fn x = true ∨ X.env.scope.names.lookup x = some .local) : PG X (.Name x pos) (gP X.K (.name i)) :=
  pg_wk (pg_name hN hi hx hf) fun v σ H Q ⟨c, ρ, w, ρ', o, e, d, b, k⟩ => by
    cases b
    exact k _ (e.set d) ⟨by simp, fun j hj => List.getElem?_set_ne (by intro z; subst z; exact hj (by simp [Pt.slots]))⟩
/-- targets, one by one -/
inductive PPt (X : Cx) : List Expr → List Pt → Prop
  | nil : PPt X [] []
  | cons {e : Expr} {es : List Expr} {p : Pt} {ps : List Pt} : isStar e = false → PG X e (gP X.K p) → PPt X es ps → PPt X (e :: es) (p :: ps)
theorem assignEach_ne {e : Expr} {es : List Expr} {env : PySem.Env} (h : isStar e = false) : assignEach (e :: es) env = (false, assign e env) :: assignEach es env := by
  cases e <;> first | rfl | cases h
theorem assignEach_len {env : PySem.Env} : ∀ {es : List Expr} {ps : List Pt}, PPt X es ps → (assignEach es env).length = ps.length ∧ (assignEach es env).findIdx? (·.1) = none
  | _, _, .nil => ⟨rfl, rfl⟩
  | _, _, .cons h _ r => by
    obtain ⟨h1, h2⟩ := assignEach_len (env := env) r
    rw [assignEach_ne h]
    refine ⟨congrArg (· + 1) h1, ?_⟩
    rw [List.findIdx?_cons]
    simp only [Bool.false_eq_true, if_false, h2]
    rfl
theorem s_names : ∀ {es : List Expr} {ps : List Pt}, PPt X es ps → PGs X es (gPs X.K ps)
  | _, _, .nil => pgs_wk pgs_nil fun vs σ H Q ⟨c, ρ, xs, ρ', o, e, d, b, k⟩ => by
    cases d with
    | nil =>
      cases b
      exact ⟨rfl, k σ e (Off.refl _ _)⟩
    | cons _ _ => cases b
  | _, _, .cons h g r => pgs_wk (pgs_cons g (s_names r) (by rw [assignEach_ne h]; rfl)) fun vs σ H Q ⟨c, ρ, xs, ρ', o, e, d, b, k⟩ => by
    cases d with
    | nil => cases b
    | cons d1 d2 =>
      obtain ⟨ρ1, b1, b2⟩ := Option.bind_eq_some_iff.mp b
      exact ⟨_, _, rfl, c, ρ, .d _, ρ1, o, e, d1, b1, fun σ1 e1 f1 => ⟨c, ρ1, _, ρ', o, e1, d2, b2, fun σ2 e2 f2 => k σ2 e2 (f1.trans f2)⟩⟩
theorem bindPts_len : ∀ {ps : List Pt} {xs : List D} {ρ ρ' : Env}, bindPts ps xs ρ = some ρ' → xs.length = ps.length
  | [], [], _, _, _ => rfl
  | [], _ :: _, _, _, h => by cases h
  | _ :: _, [], _, _, h => by cases h
  | p :: ps, x :: xs, ρ, ρ', h => by
    obtain ⟨ρ1, _, h2⟩ := Option.bind_eq_some_iff.mp h
    exact congrArg (· + 1) (bindPts_len h2)
theorem s_tupT {es : List Expr} {ps : List Pt} {j : Nat} (hc : X.calm = true) (h : PPt X es ps) : PG X (.Tuple es j pos) (gP X.K (.tup ps)) :=
  pg_wk (pg_tup (n := ps.length) hc (s_names h) (assignEach_len h).1 (assignEach_len h).2) fun v σ H Q ⟨c, ρ, w, ρ', o, e, d, b, k⟩ => by
    cases w with
    | ref _ => cases b
    | d x =>
      cases x with
      | tup xs =>
        cases d with
        | tup hb l => exact ⟨_, _, rfl, o.sub.sqt (SqT.of hb), by rw [← l.length, bindPts_len b], c, ρ, xs, ρ', o, e, l, b, k⟩
      | _ => cases b
theorem wipe_get (σ : L2.St) : ∀ (vs : List Nat) (j : Nat), (wipe σ vs)[j]? = if j ∈ vs ∧ j < σ.length then some none else σ[j]?
  | [], j => by simp [wipe]
  | v :: vs, j => by
    have ih := wipe_get σ vs j
    show ((wipe σ vs).set v none)[j]? = _
    by_cases e : v = j
    · subst e
      by_cases hl : v < σ.length
      · rw [List.getElem?_set_self (by rw [wipe_length]; exact hl), if_pos ⟨by simp, hl⟩]
      · rw [List.getElem?_eq_none (by rw [List.length_set, wipe_length]; omega), if_neg (by intro z; exact hl z.2), List.getElem?_eq_none (by omega)]
    · rw [List.getElem?_set_ne e, ih]
      have e' : ¬ j = v := fun z => e z.symm
      simp [e']
theorem wipe_off {σ σ' : L2.St} {is vs : List Nat} (h : Off is (wipe σ vs) σ') (hs : ∀ i ∈ is, i ∈ vs) : wipe σ' vs = wipe σ vs := by
  apply List.ext_getElem?
  intro j
  rw [wipe_get, wipe_get]
  have hl : σ'.length = σ.length := h.1.trans (wipe_length σ vs)
  rw [hl]
  split
  · rfl
  · rename_i hn
    by_cases hj : j ∈ vs
    · have : ¬ j < σ.length := fun z => hn ⟨hj, z⟩
      rw [List.getElem?_eq_none (by omega), List.getElem?_eq_none (by omega)]
    · rw [h.2 j fun z => hj (hs j z), wipe_get, if_neg (by intro z; exact hj z.1)]
abbrev W0 : WX := fun _ _ _ _ => False
/-- a place that is not ours stays so -/
structure Foreign (c : Cfg) (H : Hp) (p : Addr) : Prop where
  b : c.B p = none
  i : p ∉ c.pl
theorem Ext.foreign {c c1 : Cfg} {H H1 : Hp} {p : Addr} {o : HO} (e : Ext c H c1 H1) (f : Foreign c H p) (h : H p = some o) : Foreign c1 H1 p ∧ H1 p = some o := by
  obtain ⟨h1, h2⟩ := e.frame p o h f.b f.i
  refine ⟨⟨h2, ?_⟩, h1⟩
  obtain ⟨m, em, fr⟩ := e.pre
  rw [em]
  intro hm
  rcases List.mem_append.mp hm with z | z
  · exact f.i z
  · rw [fr p z] at h
    cases h
theorem Ok.write {K : KF} {c : Cfg} {H : Hp} {p : Addr} (k : Ok K c H) (f : Foreign c H p) (u : HO) : Ok K c (upd H p u) := by
  have ne : ∀ a, c.B a ≠ none ∨ a ∈ c.pl → a ≠ p := fun a h z => by
    subst z
    rcases h with h | h
    · exact h f.b
    · exact f.i h
  refine ⟨fun a v h => ?_, k.len, k.nd, fun n a cell h1 h2 => ?_, fun a ha => ?_⟩
  · rw [upd_ne (ne a (.inl (by rw [h]; simp)))]
    exact k.sub a v h
  · have q := k.cells n a cell h1 h2
    cases cell with
    | list xs =>
      obtain ⟨q1, vs, q2, q3⟩ := q
      exact ⟨q1, vs, by rw [upd_ne (ne a (.inr (List.mem_of_getElem? h1)))]; exact q2, q3⟩
    | frz d => exact q
  · rw [upd_ne (ne a (.inr ha))]
    exact k.own a ha
/-- a place that was not there at the start may be written -/
theorem Ext.write {c c1 : Cfg} {H H1 : Hp} {p : Addr} (e : Ext c H c1 H1) (h : H p = none) (u : HO) : Ext c H c1 (upd H1 p u) := by
  refine ⟨e.exB, e.pre, fun a ha => ?_, fun a o h1 h2 h3 => ?_⟩
  · by_cases z : a = p
    · subst z
      rw [upd_same]
      simp
    · rw [upd_ne z]
      exact e.there a ha
  · rw [upd_ne (ne_of_none h1 h)]
    exact e.frame a o h1 h2 h3
/-- at the end the list is ours -/
theorem fin_list {K : KF} {mg : Str → Option Value} {m : Bool} {c c1 : Cfg} {H H1 : Hp} {p : Addr} {xs : List D} {vs : List V} {Q : VK} {E : EK} (o : Ok K c1 H1) (e : Ext c H c1 H1) (h : H p = none) (f : Foreign c1 H1 p) (hp : H1 p = some (.lst vs)) (l : DenL K c1.B xs vs)
    (q : Post K mg c H (alloc m (.list xs) c1.st) (RW K) Q E) : Q (.ref p) H1 := by
  cases m with
  | false =>
    have eB : Ex c1.B (upd c1.B p (.lst vs)) := Ex.new f.b
    have o2 : Ok K ⟨upd c1.B p (.lst vs), c1.pl, c1.st⟩ H1 := by
      refine ⟨fun a u h => ?_, o.len, o.nd, fun n a cell h1 h2 => ?_, o.own⟩
      · have h : upd c1.B p (.lst vs) a = some u := h
        by_cases z : a = p
        · subst z
          rw [upd_same] at h
          cases h
          exact hp
        · rw [upd_ne z] at h
          exact o.sub a u h
      · have q := o.cells n a cell h1 h2
        have ne : a ≠ p := fun z => f.i (z ▸ List.mem_of_getElem? h1)
        cases cell with
        | list xs =>
          obtain ⟨q1, vs, q2, q3⟩ := q
          exact ⟨by show upd c1.B p _ a = none; rw [upd_ne ne]; exact q1, vs, q2, q3.mono eB⟩
        | frz d => exact Den.mono eB q
    have e2 : Ext c H ⟨upd c1.B p (.lst vs), c1.pl, c1.st⟩ H1 := by
      refine ⟨e.exB.trans eB, e.pre, e.there, fun a u h1 h2 h3 => ?_⟩
      obtain ⟨r1, r2⟩ := e.frame a u h1 h2 h3
      exact ⟨r1, by show upd c1.B p _ a = none; rw [upd_ne (ne_of_none h1 h)]; exact r2⟩
    exact q ⟨upd c1.B p (.lst vs), c1.pl, c1.st⟩ H1 (.ref p) rfl e2 o2 (.list upd_same (l.mono eB))
  | true =>
    have o2 : Ok K ⟨c1.B, c1.pl ++ [p], c1.st ++ [.list xs]⟩ H1 := by
      refine ⟨o.sub, by simp [o.len], ?_, fun n a cell h1 h2 => ?_, fun a ha => ?_⟩
      · show (c1.pl ++ [p]).Nodup
        rw [List.nodup_append]
        refine ⟨o.nd, by simp, fun a ha b hb z => ?_⟩
        have : b = p := by simpa using hb
        subst this
        exact f.i (z ▸ ha)
      · have h1 : (c1.pl ++ [p])[n]? = some a := h1
        have h2 : (c1.st ++ [Cell.list xs])[n]? = some cell := h2
        by_cases hn : n < c1.pl.length
        · rw [List.getElem?_append_left hn] at h1
          rw [List.getElem?_append_left (o.len ▸ hn)] at h2
          exact o.cells n a cell h1 h2
        · have len := o.len
          rw [List.getElem?_append_right (by omega)] at h1 h2
          have e1 : n - c1.pl.length = 0 := by
            have := (List.getElem?_eq_some_iff.mp h1).1
            simpa using this
          have e2 : n - c1.st.length = 0 := by omega
          rw [e1] at h1
          rw [e2] at h2
          have h1 : p = a := by simpa using h1
          have h2 : Cell.list xs = cell := by simpa using h2
          subst h1
          subst h2
          exact ⟨f.b, vs, hp, l⟩
      · rcases List.mem_append.mp ha with z | z
        · exact o.own a z
        · have : a = p := by simpa using z
          subst this
          rw [hp]
          simp
    have e2 : Ext c H ⟨c1.B, c1.pl ++ [p], c1.st ++ [.list xs]⟩ H1 := by
      obtain ⟨mm, em, fm⟩ := e.pre
      refine ⟨e.exB, ⟨mm ++ [p], by show c1.pl ++ [p] = _; rw [em, List.append_assoc], fun a ha => ?_⟩, e.there, e.frame⟩
      rcases List.mem_append.mp ha with z | z
      · exact fm a z
      · have : a = p := by simpa using z
        rw [this]
        exact h
    exact q _ H1 (.ref p) rfl e2 o2 ⟨p, by show (c1.pl ++ [p])[c1.st.length]? = some p; rw [← o.len, List.getElem?_append_right (Nat.le_refl _)]; simp, rfl⟩
theorem s_tests {X' : Cx} : ∀ {ifs : List Expr} {cs : List Sm}, (ifs = [] ∧ cs = []) ∨ (∃ f m, ifs = [f] ∧ cs = [m] ∧ PT X' f (bG X' W0 m.t)) → PTs X' ifs (bG X' W0 (smT cs)) := by
  intro ifs cs h
  rcases h with ⟨rfl, rfl⟩ | ⟨f, m, rfl, rfl, h⟩
  · exact ⟨fun pins s σ H Q I ⟨c, ρ, o, e, p⟩ => pts_nil.run pins s σ H Q I (p.now (b := true) o rfl)⟩
  · refine ⟨fun pins s σ H Q I ⟨c, ρ, o, e, p⟩ => (pts_one h).run pins s σ H Q I ?_⟩
    refine (tG.bind o e rfl p).imp fun b H1 ⟨c1, w, e1, o1, er1, d1, p1⟩ => ?_
    have d1 : w = b := d1
    subst d1
    cases w with
    | true => exact p1.now (b := true) o1 rfl
    | false => exact p1.now (b := false) o1 rfl
theorem s_lc {Wx : WX} {elt tg it : Expr} {ifs : List Expr} {scope : Scope} {own : List (Str × Nat)} {p : Pt} {cs : List Sm} {me : Sm} {mi : Env → M (List D)} {m : Bool} (hc : X.calm = true) (hN : X.N.Nodup) (hi : PI X tg it (iG X Wx mi)) (ok : BlkOk X.N X.env.scope scope own)
    (hs : ∀ i ∈ p.slots, i ∈ own.map (·.2)) (hf : ∀ x, foldedSetIterable it X.env x = pure x)
    (hg : ∀ (s : Shared) (H : Hp) (C : Addr) (cl : List (Str × Addr)) (fp : List Addr), PG (X.blk s H scope (compEnvC scope cl C X.env) fp) tg (gP X.K p))
    (ht : ∀ (s : Shared) (H : Hp) (C : Addr) (cl : List (Str × Addr)) (fp : List Addr), PTs (X.blk s H scope (compEnvC scope cl C X.env) fp) ifs (tG X.K X.mg W0 (smT cs) RB))
    (he : ∀ (s : Shared) (H : Hp) (C : Addr) (cl : List (Str × Addr)) (fp : List Addr), PE (X.blk s H scope (compEnvC scope cl C X.env) fp) elt (tG X.K X.mg W0 me.v (RW X.K))) :
    PE X (.ListComp elt [⟨tg, it, ifs, 0⟩] scope pos) (tLc (iG X Wx mi) (gP X.K p) (tG X.K X.mg W0 (smT cs) RB) (tG X.K X.mg W0 me.v (RW X.K)) (own.map (·.2))) := pe_lc hc hN hi ok hg ht he hf
theorem lc_read {Wx : WX} {own : List Nat} {p : Pt} {cs : List Sm} {me : Sm} {mi : Env → M (List D)} {m : Bool} (hs : ∀ i ∈ p.slots, i ∈ own) : ∀ σ H Q, vG X Wx (fun ρ => M.bind (mi ρ) fun xs => M.bind (lcLoop (lcBody p cs me (wipeE ρ own)) xs []) fun ys => alloc m (.list ys)) σ H Q →
    tLc (iG X Wx mi) (gP X.K p) (tG X.K X.mg W0 (smT cs) RB) (tG X.K X.mg W0 me.v (RW X.K)) own σ H Q := fun σ H Q ⟨c, ρ, o, e, pst⟩ => by
  refine (tG.bind o e rfl pst).imp fun J H1 ⟨c1, xs, e1, o1, er1, wk, p1⟩ => ?_
  intro Dl hD
  have f1 : Foreign c1 H1 Dl := by
    refine ⟨?_, fun z => o1.own _ z hD⟩
    cases z : c1.B Dl with
    | none => rfl
    | some u =>
      rw [o1.sub _ _ z] at hD
      cases hD
  refine ⟨fun i k H' => i ≤ xs.length ∧ k = xs.length - i ∧ ∃ c' acc vs', Ext c1 H1 c' H' ∧ Ok X.K c' H' ∧ Foreign c' H' Dl ∧ H' Dl = some (.lst vs') ∧ DenL X.K c'.B acc.reverse vs' ∧
    Post X.K X.mg c1 H1 ((lcLoop (lcBody p cs me (wipeE ρ own)) (xs.drop i) acc c'.st).andThen fun ys => alloc m (.list ys)) (RW X.K) Q (fun cls da H' => Wx cls da σ H'),
    ⟨xs.length, Nat.zero_le _, rfl, c1, [], [], (Ext.refl c1 H1).write hD _, o1.write f1 _, ⟨f1.b, f1.i⟩, upd_same, .nil, p1⟩, ?_⟩
  rintro i k H' ⟨hi, rfl, c', acc, vs', e', o', f', h', l', q'⟩
  have wi := wk i c' H' e' o'
  by_cases hlt : i < xs.length
  · have hx : xs[i]? = some xs[i] := List.getElem?_eq_getElem hlt
    obtain ⟨go, yl⟩ := wi.2 _ hx
    refine .inr ⟨go, fun H2 => (i + 1) ≤ xs.length ∧ ∃ c' acc vs', Ext c1 H1 c' H2 ∧ Ok X.K c' H2 ∧ Foreign c' H2 Dl ∧ H2 Dl = some (.lst vs') ∧ DenL X.K c'.B acc.reverse vs' ∧
      Post X.K X.mg c1 H1 ((lcLoop (lcBody p cs me (wipeE ρ own)) (xs.drop (i + 1)) acc c'.st).andThen fun ys => alloc m (.list ys)) (RW X.K) Q (fun cls da H' => Wx cls da σ H'),
      fun H2 ⟨h1, h2⟩ => ⟨xs.length - (i + 1), by omega, h1, rfl, h2⟩, fun v H2 hy => ?_⟩
    obtain ⟨c2, s2, e2, o2, d2⟩ := yl v H2 hy
    have eD : xs.drop i = xs[i] :: xs.drop (i + 1) := List.drop_eq_getElem_cons hlt
    rw [eD] at q'
    generalize xs[i] = x at q' d2
    obtain ⟨f2, h2⟩ := e2.foreign f' h'
    have e12 := Ext.trans o' e' e2
    have l2 : DenL X.K c2.B acc.reverse vs' := l'.mono e2.exB
    rw [← s2] at q'
    have er2 : ERel X.K c2 (wipeE ρ own) (wipe σ own) := (er1.mono e12).wipe own
    have q2 : Post X.K X.mg c1 H1 ((match (lift (bindPt p (.d x) (wipeE ρ own)) c2.st).andThen (fun ρ1 => M.bind (smT cs ρ1) fun t => if t then M.bind (me.v ρ1) fun w => M.bind (freeze w) fun y => M.pure (some y) else M.pure none) with
      | .ok none s => lcLoop (lcBody p cs me (wipeE ρ own)) (xs.drop (i + 1)) acc s
      | .ok (some y) s => if decide (acc.length < 16777216) then lcLoop (lcBody p cs me (wipeE ρ own)) (xs.drop (i + 1)) (y :: acc) s else .bad
      | _ => .bad).andThen fun ys => alloc m (.list ys)) (RW X.K) Q (fun cls da H' => Wx cls da σ H') := q'
    cases eb : bindPt p (.d x) (wipeE ρ own) with
    | none =>
      rw [eb] at q2
      exact q2.elim
    | some ρ2 =>
      rw [eb] at q2
      refine ⟨c2, wipeE ρ own, .d x, ρ2, o2, er2, d2, eb, fun σ2 er3 off => ⟨wipe_off off hs, c2, ρ2, o2, er3, ?_⟩⟩
      have q3 : Post X.K X.mg c1 H1 ((match (smT cs ρ2 c2.st).andThen (fun t => if t then M.bind (me.v ρ2) fun w => M.bind (freeze w) fun y => M.pure (some y) else M.pure none) with
        | .ok none s => lcLoop (lcBody p cs me (wipeE ρ own)) (xs.drop (i + 1)) acc s
        | .ok (some y) s => if decide (acc.length < 16777216) then lcLoop (lcBody p cs me (wipeE ρ own)) (xs.drop (i + 1)) (y :: acc) s else .bad
        | _ => .bad).andThen fun ys => alloc m (.list ys)) (RW X.K) Q (fun cls da H' => Wx cls da σ H') := q2
      cases rt : smT cs ρ2 c2.st with
      | bad =>
        rw [rt] at q3
        exact q3.elim
      | exc _ _ _ =>
        rw [rt] at q3
        exact q3.elim
      | ok t st =>
        rw [rt] at q3
        intro c3 H3 b h31 h32 h33 h34
        have h34 : t = b := h34
        subst h34
        subst h31
        obtain ⟨f3, h3⟩ := h32.foreign f2 h2
        have e13 := Ext.trans o2 e12 h32
        cases t with
        | false =>
          exact ⟨by omega, c3, acc, vs', e13, h33, f3, h3, l2.mono h32.exB, q3⟩
        | true =>
          show tG X.K X.mg W0 me.v (RW X.K) σ2 H3 _
          refine ⟨c3, ρ2, h33, er3.mono h32, ?_⟩
          have q4 : Post X.K X.mg c1 H1 ((match (me.v ρ2 c3.st).andThen (fun w => M.bind (freeze w) fun y => M.pure (some y)) with
            | .ok none s => lcLoop (lcBody p cs me (wipeE ρ own)) (xs.drop (i + 1)) acc s
            | .ok (some y) s => if decide (acc.length < 16777216) then lcLoop (lcBody p cs me (wipeE ρ own)) (xs.drop (i + 1)) (y :: acc) s else .bad
            | _ => .bad).andThen fun ys => alloc m (.list ys)) (RW X.K) Q (fun cls da H' => Wx cls da σ H') := q3
          cases rv : me.v ρ2 c3.st with
          | bad =>
            rw [rv] at q4
            exact q4.elim
          | exc _ _ _ =>
            rw [rv] at q4
            exact q4.elim
          | ok w st4 =>
            rw [rv] at q4
            intro c4 H4 y h41 h42 h43 h44
            subst h41
            obtain ⟨f4, h4⟩ := h42.foreign f3 h3
            have e14 := Ext.trans h33 e13 h42
            have q5 : Post X.K X.mg c1 H1 ((match (freeze w c4.st).andThen (fun y => M.pure (some y)) with
              | .ok none s => lcLoop (lcBody p cs me (wipeE ρ own)) (xs.drop (i + 1)) acc s
              | .ok (some y) s => if decide (acc.length < 16777216) then lcLoop (lcBody p cs me (wipeE ρ own)) (xs.drop (i + 1)) (y :: acc) s else .bad
              | _ => .bad).andThen fun ys => alloc m (.list ys)) (RW X.K) Q (fun cls da H' => Wx cls da σ H') := q4
            cases rf : freeze w c4.st with
            | bad =>
              rw [rf] at q5
              exact q5.elim
            | exc _ _ _ =>
              rw [rf] at q5
              exact q5.elim
            | ok z st5 =>
              rw [rf] at q5
              obtain ⟨c5, z5, e5, o5, d5⟩ := freeze_ok h43 h44 rf
              subst z5
              obtain ⟨f5, h5⟩ := e5.foreign f4 h4
              have e15 := Ext.trans h43 e14 e5
              have l5 : DenL X.K c5.B acc.reverse vs' := ((l2.mono h32.exB).mono h42.exB).mono e5.exB
              have q6 : Post X.K X.mg c1 H1 ((if decide (acc.length < 16777216) then lcLoop (lcBody p cs me (wipeE ρ own)) (xs.drop (i + 1)) (z :: acc) c5.st else .bad).andThen fun ys => alloc m (.list ys)) (RW X.K) Q (fun cls da H' => Wx cls da σ H') := q5
              by_cases hz : acc.length < 16777216
              · rw [decide_eq_true hz, if_pos rfl] at q6
                have lv : vs'.length = acc.length := by rw [← l5.length, List.length_reverse]
                refine ⟨vs', h4, by rw [lv, sizeLine_eq]; exact hz, by omega, c5, z :: acc, vs' ++ [y], e15.write hD _, o5.write f5 _, ⟨f5.b, f5.i⟩, upd_same, ?_, q6⟩
                rw [List.reverse_cons]
                exact l5.append (.cons d5 .nil)
              · rw [decide_eq_false hz] at q6
                exact q6.elim
  · have hi' : i = xs.length := by omega
    refine .inl ⟨wi.1 hi', ?_⟩
    rw [hi', List.drop_length] at q'
    exact fin_list o' e' hD f' h' l' q'
end
end Cr

namespace Cr
open PySem L2
def isBiName (x : Str) : Prop := (∃ f : Bi, x = nmBi f) ∨ (∃ t : Ty, x = tyS t) ∨ x = "range" ∨ x = "enumerate" ∨ x = "zip" ∨ x = "isinstance"
structure GX (run : Str → List W → M W) (gl : Str → Option D) (cc : CC) (k : Nat) (sc raw : Scope) (X : Cx) : Prop where
  calm : X.calm = true
  N : X.N = cc.N
  nd : cc.N.Nodup
  scope : X.env.scope = sc
  rawL : ∀ x, raw.names.lookup x = some .local → sc.names.lookup x = some .local
  rawC : ∀ x, raw.names.lookup x = some .cell → sc.names.lookup x = some .cell ∧ X.fn x = true
  room : Room k X.A
  gls : ∀ x d, cc.gl x = true → gl x = some d → ∃ u v, X.mg x = some u ∧ RelV v u ∧ ∀ B, Den X.K B d v
  fns : ∀ f, cc.fn f = true → Fnk X run k f
  bis : ∀ x, cc.fn x = false → isBiName x → X.mg x = none
section
variable {run : Str → List W → M W} {gl : Str → Option D} {cc : CC} {k : Nat} {sc raw : Scope} {X : Cx}
def Good3 (run : Str → List W → M W) (gl : Str → Option D) (X : Cx) (e : Expr) (E : E) : Prop := ∀ Wx, Takes X Wx →
  PE X e (vG X Wx (sem run gl E).v) ∧ PT X e (bG X Wx (sem run gl E).t) ∧ ∀ tg, walkOk tg e = true → PI X tg e (iG X Wx (sem run gl E).i)
theorem good_bad {e : Expr} : Good3 run gl X e .bad := fun Wx tk => ⟨pe_none (tG_bad fun _ _ => rfl), pt_none (tG_bad fun _ _ => rfl), fun tg _ => pi_none (tG_bad fun _ _ => rfl)⟩
theorem good_v {e : Expr} {E : E} {v : Env → M W} (hE : sem run gl E = ofV v) (hp : Plain X e) (h : ∀ Wx, Takes X Wx → PE X e (vG X Wx v)) : Good3 run gl X e E := fun Wx tk => by
  rw [hE]
  exact ⟨h Wx tk, s_truth (h Wx tk) hp, fun tg _ => s_walk (h Wx tk)⟩
theorem slot_ok {x : Str} {i : Nat} (h : slot? cc sc x = some i) : cc.N[i]? = some x ∧ Vis sc x ∧ (x == ("__debug__" : Str)) = false ∧ (x == ("__classdict__" : Str)) = false := by
  have go : (if (x == ("__debug__" : Str) || x == ("__classdict__" : Str)) = true then none else cc.N.idxOf? x) = some i → cc.N[i]? = some x ∧ (x == ("__debug__" : Str)) = false ∧ (x == ("__classdict__" : Str)) = false := fun h => by
    by_cases b : (x == ("__debug__" : Str) || x == ("__classdict__" : Str)) = true
    · rw [if_pos b] at h
      cases h
    · rw [if_neg b] at h
      have b' : (x == ("__debug__" : Str)) = false ∧ (x == ("__classdict__" : Str)) = false := by simpa using b
      obtain ⟨h1, h2⟩ := List.findIdx?_eq_some_iff_getElem.mp h
      obtain ⟨h2, _⟩ := h2
      refine ⟨?_, b'⟩
      rw [List.getElem?_eq_getElem h1]
      exact congrArg some (by simpa using h2)
  unfold slot? at h
  split at h
  · rename_i hk
    obtain ⟨h1, h2, h3⟩ := go h
    exact ⟨h1, .inl hk, h2, h3⟩
  · rename_i hk
    obtain ⟨h1, h2, h3⟩ := go h
    exact ⟨h1, .inr (.inl hk), h2, h3⟩
  · rename_i hk
    obtain ⟨h1, h2, h3⟩ := go h
    exact ⟨h1, .inr (.inr hk), h2, h3⟩
  · cases h
theorem glob_ok {x : Str} (h : glob? sc x = true) : sc.names.lookup x = some .globalImplicit ∧ (x == ("__debug__" : Str)) = false := by
  unfold glob? at h
  simp only [Bool.and_eq_true, beq_iff_eq, Bool.not_eq_true'] at h
  exact ⟨h.1.1, h.1.2⟩
theorem GX.g {x : Str} (G : GX run gl cc k sc raw X) (h : sc.names.lookup x = some .globalImplicit) : Gl X x := by
  show X.env.scope.names.lookup x = _
  rw [G.scope]
  exact h
theorem pes_of {f : Expr → E} {Wx : WX} (tk : Takes X Wx) : ∀ {es : List Expr}, (∀ e ∈ es, Good3 run gl X e (f e)) → noStar es = true → PEs X Wx es (sems run gl (es.map f))
  | [], _, _ => .nil
  | e :: es, h, hs => by
    have hs : (!isStar e && noStar es) = true := hs
    obtain ⟨h1, h2⟩ := and2 hs
    exact .cons (by simpa using h1) (h e (by simp) Wx tk).1 (pes_of tk (fun e' he => h e' (by simp [he])) h2)
theorem and_list {f : Expr → E} {Wx : WX} {pos : Pos} (tk : Takes X Wx) : ∀ {es : List Expr}, es ≠ [] → (∀ e ∈ es, Good3 run gl X e (f e)) →
    PE X (.BoolOp .And es pos) (vG X Wx (sem run gl (andE (es.map f))).v) ∧ PW X (.BoolOp .And es pos) (bG X Wx (sem run gl (andE (es.map f))).t)
  | [], h, _ => absurd rfl h
  | [e], _, h => ⟨pe_one (h e (by simp) Wx tk).1, pw_and1 (h e (by simp) Wx tk).2.1⟩
  | e :: e2 :: es, _, h => by
    obtain ⟨i1, i2⟩ := and_list (pos := pos) tk (es := e2 :: es) (by simp) (fun e' he => h e' (by simp [he]))
    obtain ⟨h1, h2, _⟩ := h e (by simp) Wx tk
    exact ⟨s_and h1 i1, s_andT h2 i2⟩
theorem or_list {f : Expr → E} {Wx : WX} {pos : Pos} (tk : Takes X Wx) : ∀ {es : List Expr}, es ≠ [] → (∀ e ∈ es, Good3 run gl X e (f e)) →
    PE X (.BoolOp .Or es pos) (vG X Wx (sem run gl (orE (es.map f))).v) ∧ PW X (.BoolOp .Or es pos) (bG X Wx (sem run gl (orE (es.map f))).t)
  | [], h, _ => absurd rfl h
  | [e], _, h => ⟨pe_one (h e (by simp) Wx tk).1, pw_or1 (h e (by simp) Wx tk).2.1⟩
  | e :: e2 :: es, _, h => by
    obtain ⟨i1, i2⟩ := or_list (pos := pos) tk (es := e2 :: es) (by simp) (fun e' he => h e' (by simp [he]))
    obtain ⟨h1, h2, _⟩ := h e (by simp) Wx tk
    exact ⟨s_or h1 i1, s_orT h2 i2⟩
theorem pt_ok (G : GX run gl cc k sc raw X) : ∀ (n : Nat) (e : Expr) (p : Pt), compPt cc raw n e = some p → PG X e (gP X.K p)
  | 0, e, p, h => by cases h
  | n + 1, e, p, h => by
    cases e with
    | Name x pos =>
      obtain ⟨i, hi, h⟩ := Option.bind_eq_some_iff.mp (show ((slot? cc raw x).bind fun i => match raw.names.lookup x with | some .local | some .cell => some (Pt.name i) | _ => none) = some p from h)
      obtain ⟨h1, _⟩ := slot_ok hi
      have hN : X.N.Nodup := G.N ▸ G.nd
      have hx : X.N[i]? = some x := by rw [G.N]; exact h1
      split at h
      · rename_i hl
        cases h
        have q := G.rawL x hl
        rw [← G.scope] at q
        exact s_name hN hx (.inl q) (.inr q)
      · rename_i hl
        cases h
        obtain ⟨q, q2⟩ := G.rawC x hl
        rw [← G.scope] at q
        exact s_name hN hx (.inr q) (.inl q2)
      · cases h
    | Tuple es j pos =>
      obtain ⟨ps, hp, rfl⟩ := Option.map_eq_some_iff.mp (show ((es.mapM (compPt cc raw n)).map Pt.tup) = some p from h)
      have go : ∀ (es : List Expr) (ps : List Pt), es.mapM (compPt cc raw n) = some ps → PPt X es ps := by
        intro es
        induction es with
        | nil =>
          intro ps h
          cases h
          exact .nil
        | cons e es ih =>
          intro ps h
          rw [List.mapM_cons] at h
          obtain ⟨q, h1, h⟩ := Option.bind_eq_some_iff.mp h
          obtain ⟨r, h2, h⟩ := Option.bind_eq_some_iff.mp h
          cases h
          refine .cons ?_ (pt_ok G n e q h1) (ih r h2)
          cases e <;> first | rfl | (cases n <;> cases h1)
      exact s_tupT G.calm (go es ps hp)
    | _ => cases h
theorem slots_eq : ∀ (n : Nat) (e : Expr) (p : Pt), compPt cc raw n e = some p → ptSlots n p = p.slots
  | 0, e, p, h => by cases h
  | n + 1, e, p, h => by
    cases e with
    | Name x pos =>
      obtain ⟨i, hi, h⟩ := Option.bind_eq_some_iff.mp (show ((slot? cc raw x).bind fun i => match raw.names.lookup x with | some .local | some .cell => some (Pt.name i) | _ => none) = some p from h)
      split at h
      · cases h; simp [ptSlots, Pt.slots]
      · cases h; simp [ptSlots, Pt.slots]
      · cases h
    | Tuple es j pos =>
      obtain ⟨ps, hp, rfl⟩ := Option.map_eq_some_iff.mp (show ((es.mapM (compPt cc raw n)).map Pt.tup) = some p from h)
      have go : ∀ (es : List Expr) (ps : List Pt), es.mapM (compPt cc raw n) = some ps → ps.flatMap (ptSlots n) = Pts.slots ps := by
        intro es
        induction es with
        | nil =>
          intro ps h
          cases h
          rfl
        | cons e es ih =>
          intro ps h
          rw [List.mapM_cons] at h
          obtain ⟨q, h1, h⟩ := Option.bind_eq_some_iff.mp h
          obtain ⟨r, h2, h⟩ := Option.bind_eq_some_iff.mp h
          cases h
          rw [List.flatMap_cons, slots_eq n e q h1, ih r h2]
          simp [Pts.slots]
      show ps.flatMap (ptSlots n) = (Pt.tup ps).slots
      rw [go es ps hp]
      simp [Pt.slots]
    | _ => cases h
/-- a block's context -/
theorem GX.blk (G : GX run gl cc k sc raw X) {scope : Scope} {own : List (Str × Nat)} (ok : BlkOk cc.N sc scope own) (s : Shared) (H : Hp) (C : Addr) (cl : List (Str × Addr)) (fp : List Addr) :
    GX run gl cc k (relSc scope sc) scope (X.blk s H scope (compEnvC scope cl C X.env) fp) := by
  refine ⟨G.calm, G.N, G.nd, ?_, fun x h => ?_, fun x h => ⟨?_, ?_⟩, G.room, G.gls, fun f hf => ?_, G.bis⟩
  · show relabel scope X.env = relSc scope sc
    have : relabel scope X.env = relS scope X.env.scope := rfl
    rw [this, G.scope]
    rfl
  · exact lookup_relS_keep (by decide) h
  · exact lookup_relS_keep (by decide) h
  · show (scope.names.lookup x == some .cell) = true
    rw [h]
    rfl
  · obtain ⟨a, fd, ps, h1, h2, h3, h4⟩ := (G.fns f hf).ex
    exact ⟨a, fd, ps, h1, h2, h3, h4⟩
theorem ite_or {α : Type} {b : Bool} {x y z : Option α} (h : (if b = true then x else y) = z) : (b = true ∧ x = z) ∨ (b = false ∧ y = z) := by
  cases b with
  | true => exact .inl ⟨rfl, h⟩
  | false => exact .inr ⟨rfl, h⟩
theorem biOf_eq {f : Str} {n : Nat} {b : Bi} (h : biOf f n = some b) : f = nmBi b := by
  unfold biOf at h
  rcases ite_or h with ⟨q, h⟩ | ⟨_, h⟩
  · cases h; exact eq_of_beq (and2 q).1
  rcases ite_or h with ⟨q, h⟩ | ⟨_, h⟩
  · cases h; exact eq_of_beq (and2 q).1
  rcases ite_or h with ⟨q, h⟩ | ⟨_, h⟩
  · cases h; exact eq_of_beq (and2 q).1
  rcases ite_or h with ⟨q, h⟩ | ⟨_, h⟩
  · cases h; exact eq_of_beq (and2 q).1
  rcases ite_or h with ⟨q, h⟩ | ⟨_, h⟩
  · cases h; exact eq_of_beq (and2 q).1
  rcases ite_or h with ⟨q, h⟩ | ⟨_, h⟩
  · cases h; exact eq_of_beq (and2 q).1
  rcases ite_or h with ⟨q, h⟩ | ⟨_, h⟩
  · cases h; exact eq_of_beq (and2 q).1
  rcases ite_or h with ⟨q, h⟩ | ⟨_, h⟩
  · cases h; exact eq_of_beq (and2 q).1
  rcases ite_or h with ⟨q, h⟩ | ⟨_, h⟩
  · cases h; exact eq_of_beq (and2 q).1
  rcases ite_or h with ⟨q, h⟩ | ⟨_, h⟩
  · cases h; exact eq_of_beq (and2 q).1
  cases h
theorem mtOf_eq {f : Str} {n : Nat} {b : Mt} (h : mtOf f n = some b) : f = nmMt b := by
  unfold mtOf at h
  rcases ite_or h with ⟨q, h⟩ | ⟨_, h⟩
  · cases h; exact eq_of_beq (and2 q).1
  rcases ite_or h with ⟨q, h⟩ | ⟨_, h⟩
  · cases h; exact eq_of_beq (and2 q).1
  rcases ite_or h with ⟨q, h⟩ | ⟨_, h⟩
  · cases h; exact eq_of_beq (and2 q).1
  rcases ite_or h with ⟨q, h⟩ | ⟨_, h⟩
  · cases h; exact eq_of_beq (and2 q).1
  rcases ite_or h with ⟨q, h⟩ | ⟨_, h⟩
  · cases h; exact eq_of_beq (and2 q).1
  cases h
theorem tyOf_eq {f : Str} {b : Ty} (h : tyOf f = some b) : f = tyS b := by
  unfold tyOf at h
  rcases ite_or h with ⟨q, h⟩ | ⟨_, h⟩
  · cases h; exact eq_of_beq q
  rcases ite_or h with ⟨q, h⟩ | ⟨_, h⟩
  · cases h; exact eq_of_beq q
  rcases ite_or h with ⟨q, h⟩ | ⟨_, h⟩
  · cases h; exact eq_of_beq q
  rcases ite_or h with ⟨q, h⟩ | ⟨_, h⟩
  · cases h; exact eq_of_beq q
  rcases ite_or h with ⟨q, h⟩ | ⟨_, h⟩
  · cases h; exact eq_of_beq q
  cases h
/-- what is known of smaller trees -/
def IH (run : Str → List W → M W) (gl : Str → Option D) (cc : CC) (k n : Nat) : Prop := ∀ (sc raw : Scope) (X : Cx) (m : Bool) (e : Expr), GX run gl cc k sc raw X → Good3 run gl X e (compE cc n sc m e)
variable {n : Nat} {m : Bool} {pos : Pos}
theorem c_name (G : GX run gl cc k sc raw X) {x : Str} : Good3 run gl X (.Name x pos) (compE cc (n + 1) sc m (.Name x pos)) := by
  show Good3 run gl X (.Name x pos) (match slot? cc sc x with | some i => .var i | none => if glob? sc x && cc.gl x then .glob x else .bad)
  split
  · rename_i i hi
    obtain ⟨h1, h2, h3, h4⟩ := slot_ok hi
    rw [← G.N] at h1
    rw [← G.scope] at h2
    exact good_v rfl (fun _ => rfl) fun Wx tk => s_var h1 h2 h3 h4
  · split
    · rename_i h
      obtain ⟨h1, h2⟩ := and2 h
      obtain ⟨g1, g2⟩ := glob_ok h1
      cases e : gl x with
      | none =>
        refine fun Wx tk => ⟨pe_none (tG_bad fun ρ s => ?_), pt_none (tG_bad fun ρ s => ?_), fun tg _ => pi_none (tG_bad fun ρ s => ?_)⟩
        · show ((lift (gl x) s).andThen fun d => M.pure (W.d d)) = .bad
          rw [e]; rfl
        · show (((lift (gl x) s).andThen fun d => M.pure (W.d d)).andThen fun w => M.bind (peek w) fun x => lift (truth x)) = .bad
          rw [e]; rfl
        · show (((lift (gl x) s).andThen fun d => M.pure (W.d d)).andThen fun w => M.bind (freeze w) fun x => lift (walkD x)) = .bad
          rw [e]; rfl
      | some d =>
        obtain ⟨u, v, q1, q2, q3⟩ := G.gls x d h2 e
        refine good_v (v := fun _ => M.pure (.d d)) ?_ (fun _ => rfl) fun Wx tk => s_glob (G.g g1) q1 q2 q3 g2
        show ofV (fun _ => M.bind (lift (gl x)) fun d => M.pure (.d d)) = _
        rw [e]
        rfl
    · exact good_bad
theorem c_con {c : Const} {j : Nat} : Good3 run gl X (.Constant c j pos) (compE cc (n + 1) sc m (.Constant c j pos)) := by
  show Good3 run gl X (.Constant c j pos) (match conD c with | some d => .con d | none => .bad)
  split
  · rename_i d h
    exact good_v rfl (fun _ => rfl) fun Wx tk => s_con h
  · exact good_bad
theorem c_tup (ih : IH run gl cc k n) (G : GX run gl cc k sc raw X) {es : List Expr} {j : Nat} : Good3 run gl X (.Tuple es j pos) (compE cc (n + 1) sc m (.Tuple es j pos)) := by
  show Good3 run gl X _ (if noStar es then .tup (es.map (compE cc n sc false)) else .bad)
  split
  · rename_i h
    exact good_v rfl (fun _ => rfl) fun Wx tk => s_tup (pes_of tk (fun e _ => ih sc raw X false e G) h)
  · exact good_bad
theorem c_list (ih : IH run gl cc k n) (G : GX run gl cc k sc raw X) {es : List Expr} : Good3 run gl X (.List es pos) (compE cc (n + 1) sc m (.List es pos)) := by
  show Good3 run gl X _ (if noStar es then .list m (es.map (compE cc n sc false)) else .bad)
  split
  · rename_i h
    exact good_v rfl (fun _ => rfl) fun Wx tk => s_list (pes_of tk (fun e _ => ih sc raw X false e G) h)
  · exact good_bad
theorem c_bin (ih : IH run gl cc k n) (G : GX run gl cc k sc raw X) {a b : Expr} {op : Operator} : Good3 run gl X (.BinOp a op b pos) (compE cc (n + 1) sc m (.BinOp a op b pos)) :=
  good_v (E := .bin m op (compE cc n sc false a) (compE cc n sc false b)) rfl (fun _ => rfl) fun Wx tk => s_bin (ih sc raw X false a G Wx tk).1 (ih sc raw X false b G Wx tk).1
theorem GX.units (G : GX run gl cc k sc raw X) : X.A.units + 64 < cLine := G.room.units
theorem c_cmp (ih : IH run gl cc k n) (G : GX run gl cc k sc raw X) {a b : Expr} {op : CmpOp} : Good3 run gl X (.Compare a [op] [b] pos) (compE cc (n + 1) sc m (.Compare a [op] [b] pos)) := by
  show Good3 run gl X _ (if behindInMarks op b then .bad else .cmp op (compE cc n sc false a) (compE cc n sc false b))
  split
  · exact good_bad
  · rename_i h
    have h : behindInMarks op b = false := by simpa using h
    intro Wx tk
    have q := s_cmp (op := op) (pos := pos) G.units (ih sc raw X false a G Wx tk).1 (ih sc raw X false b G Wx tk).1 h
    exact ⟨q, s_cmpT G.units (ih sc raw X false a G Wx tk).1 (ih sc raw X false b G Wx tk).1 h, fun tg _ => s_walk q⟩
theorem c_cmp2 (ih : IH run gl cc k n) (G : GX run gl cc k sc raw X) {a b d : Expr} {op op2 : CmpOp} : Good3 run gl X (.Compare a [op, op2] [b, d] pos) (compE cc (n + 1) sc m (.Compare a [op, op2] [b, d] pos)) := by
  show Good3 run gl X _ (if behindInMarks op2 d then .bad else .cmp2 op op2 (compE cc n sc false a) (compE cc n sc false b) (compE cc n sc false d))
  split
  · exact good_bad
  · rename_i h
    have h : behindInMarks op2 d = false := by simpa using h
    intro Wx tk
    have q := s_cmp2 (op := op) (op2 := op2) (pos := pos) G.units (ih sc raw X false a G Wx tk).1 (ih sc raw X false b G Wx tk).1 (ih sc raw X false d G Wx tk).1 h
    exact ⟨q, s_cmp2T G.units (ih sc raw X false a G Wx tk).1 (ih sc raw X false b G Wx tk).1 (ih sc raw X false d G Wx tk).1 h, fun tg _ => s_walk q⟩
theorem c_un (ih : IH run gl cc k n) (G : GX run gl cc k sc raw X) {a : Expr} {op : UnaryOp} : Good3 run gl X (.UnaryOp op a pos) (compE cc (n + 1) sc m (.UnaryOp op a pos)) := by
  have A := ih sc raw X false a G
  cases op with
  | Not => exact fun Wx tk => ⟨s_not (A Wx tk).1, s_notT (A Wx tk).2.1, fun tg _ => pi_none (tG_bad fun _ _ => rfl)⟩
  | USub => exact good_v (E := .un .USub (compE cc n sc false a)) rfl (fun _ => rfl) fun Wx tk => s_un (A Wx tk).1
  | Invert => exact good_v (E := .un .Invert (compE cc n sc false a)) rfl (fun _ => rfl) fun Wx tk => s_un (A Wx tk).1
  | UAdd => exact good_v (E := .un .UAdd (compE cc n sc false a)) rfl (fun _ => rfl) fun Wx tk => s_un (A Wx tk).1
theorem c_bool (ih : IH run gl cc k n) (G : GX run gl cc k sc raw X) {es : List Expr} {op : BoolOp} : Good3 run gl X (.BoolOp op es pos) (compE cc (n + 1) sc m (.BoolOp op es pos)) := by
  have A : ∀ e ∈ es, Good3 run gl X e (compE cc n sc false e) := fun e _ => ih sc raw X false e G
  cases op with
  | And =>
    show Good3 run gl X _ (if decide (2 ≤ es.length) then andE (es.map (compE cc n sc false)) else .bad)
    split
    · rename_i hl
      have hl := of_decide_eq_true hl
      intro Wx tk
      obtain ⟨h1, h2⟩ := and_list (pos := pos) tk (by intro z; subst z; simp at hl) A
      refine ⟨h1, h2.pt, fun tg _ => ?_⟩
      match es, hl with
      | e :: e2 :: es, _ => exact pi_none (tG_bad fun _ _ => rfl)
    · exact good_bad
  | Or =>
    show Good3 run gl X _ (if decide (2 ≤ es.length) then orE (es.map (compE cc n sc false)) else .bad)
    split
    · rename_i hl
      have hl := of_decide_eq_true hl
      intro Wx tk
      obtain ⟨h1, h2⟩ := or_list (pos := pos) tk (by intro z; subst z; simp at hl) A
      refine ⟨h1, h2.pt, fun tg _ => ?_⟩
      match es, hl with
      | e :: e2 :: es, _ => exact pi_none (tG_bad fun _ _ => rfl)
    · exact good_bad
theorem c_ite (ih : IH run gl cc k n) (G : GX run gl cc k sc raw X) {t a b : Expr} : Good3 run gl X (.IfExp t a b pos) (compE cc (n + 1) sc m (.IfExp t a b pos)) := fun Wx tk => by
  have q := s_ite (pos := pos) (ih sc raw X false t G Wx tk).2.1 (ih sc raw X m a G Wx tk).1 (ih sc raw X m b G Wx tk).1
  exact ⟨q, s_iteT (ih sc raw X false t G Wx tk).2.1 (ih sc raw X m a G Wx tk).2.1 (ih sc raw X m b G Wx tk).2.1, fun tg _ => s_walk q⟩
theorem c_fs (ih : IH run gl cc k n) (G : GX run gl cc k sc raw X) {es : List Expr} : Good3 run gl X (.JoinedStr es pos) (compE cc (n + 1) sc m (.JoinedStr es pos)) := by
  show Good3 run gl X _ (if noStar es && decide (2 ≤ es.length) then .fs (es.map (compE cc n sc false)) else .bad)
  split
  · rename_i h
    obtain ⟨h1, h2⟩ := and2 h
    exact good_v rfl (fun _ => rfl) fun Wx tk => s_fs (pes_of tk (fun e _ => ih sc raw X false e G) h1) (of_decide_eq_true h2)
  · exact good_bad
theorem c_fmt (ih : IH run gl cc k n) (G : GX run gl cc k sc raw X) {a : Expr} {cv : Int} {sp : Option Expr} : Good3 run gl X (.FormattedValue a cv sp pos) (compE cc (n + 1) sc m (.FormattedValue a cv sp pos)) := by
  have A := ih sc raw X false a G
  show Good3 run gl X _ (if decide (cv = -1) && sp.isNone then .fmt (compE cc n sc false a) else .bad)
  split
  · rename_i h
    obtain ⟨h1, h2⟩ := and2 h
    have h1 := of_decide_eq_true h1
    subst h1
    cases sp with
    | some _ => cases h2
    | none => exact good_v rfl (fun _ => rfl) fun Wx tk => s_fmt (A Wx tk).1
  · exact good_bad
theorem c_idx (ih : IH run gl cc k n) (G : GX run gl cc k sc raw X) {a i : Expr} (h : isSlice i = false) (e : compE cc (n + 1) sc m (.Subscript a i pos) = .idx (compE cc n sc false a) (compE cc n sc false i)) : Good3 run gl X (.Subscript a i pos) (compE cc (n + 1) sc m (.Subscript a i pos)) := by
  rw [e]
  exact good_v rfl (fun _ => rfl) fun Wx tk => s_idx (ih sc raw X false a G Wx tk).1 (ih sc raw X false i G Wx tk).1 h
theorem part_sem {Wx : WX} (tk : Takes X Wx) (ih : IH run gl cc k n) (G : GX run gl cc k sc raw X) (lo : Option Expr) :
    PO X lo (oG X Wx fun ρ => if lo.isSome = true then M.bind ((sem run gl (match lo with | none => E.nil | some e => compE cc n sc false e)).v ρ) partW else M.pure none) := by
  cases lo with
  | none => exact s_part0
  | some e => exact s_part (ih sc raw X false e G Wx tk).1
theorem c_sub (ih : IH run gl cc k n) (G : GX run gl cc k sc raw X) {a i : Expr} : Good3 run gl X (.Subscript a i pos) (compE cc (n + 1) sc m (.Subscript a i pos)) := by
  cases i with
  | Slice lo hi st p2 =>
    cases st with
    | none =>
      exact good_v (E := .slice m lo.isSome hi.isSome (compE cc n sc false a) (match lo with | none => .nil | some e => compE cc n sc false e) (match hi with | none => .nil | some e => compE cc n sc false e)) rfl (fun _ => rfl) fun Wx tk => s_slice (ih sc raw X false a G Wx tk).1 (part_sem tk ih G lo) (part_sem tk ih G hi)
    | some s =>
      show Good3 run gl X _ (if isM1 s && lo.isNone && hi.isNone then .rev (compE cc n sc false a) else .bad)
      split
      · rename_i h
        obtain ⟨h1, h2, h3⟩ := and3 h
        cases lo with
        | some _ => cases h2
        | none =>
          cases hi with
          | some _ => cases h3
          | none =>
            cases s with
            | UnaryOp op b p3 =>
              cases op with
              | USub =>
                cases b with
                | Constant c j p4 =>
                  cases c with
                  | int i =>
                    have e : i = 1 := of_decide_eq_true h1
                    subst e
                    exact good_v rfl (fun _ => rfl) fun Wx tk => s_rev (ih sc raw X false a G Wx tk).1
                  | _ => cases h1
                | _ => cases h1
              | _ => cases h1
            | _ => cases h1
      · exact good_bad
  | _ => exact c_idx ih G rfl rfl
theorem own_ok {scope : Scope} (h : blkC cc.N sc scope (ownOf cc scope) = true) : BlkOk cc.N sc scope (ownOf cc scope) := blkOk_by h
theorem c_lc (ih : IH run gl cc k n) (G : GX run gl cc k sc raw X) {elt : Expr} {gens : List Comprehension} {scope : Scope} : Good3 run gl X (.ListComp elt gens scope pos) (compE cc (n + 1) sc m (.ListComp elt gens scope pos)) := by
  match gens with
  | [] => exact good_bad
  | ⟨_, _, _, _⟩ :: ⟨_, _, _, _⟩ :: _ => exact good_bad
  | [⟨tg, it, cs, isa⟩] =>
    show Good3 run gl X _ (match compPt cc scope 5 tg with
        | some p => if L2.blkC cc.N sc scope (ownOf cc scope) && walkOk tg it && decide (cs.length ≤ 1) && decide (isa = 0) && (ptSlots 5 p).all fun i => ((ownOf cc scope).map (·.2)).contains i then
            .lc m (compE cc n (relSc scope sc) false elt) p (compE cc n sc false it) (cs.map (compE cc n (relSc scope sc) false)) ((ownOf cc scope).map (·.2)) else .bad
        | none => .bad)
    split
    · rename_i p hp
      split
      · rename_i h
        obtain ⟨h, h5⟩ := and2 h
        obtain ⟨h, h4⟩ := and2 h
        obtain ⟨h1, h2, h3⟩ := and3 h
        have h4 := of_decide_eq_true h4
        subst h4
        have ok := own_ok h1
        have okX : BlkOk X.N X.env.scope scope (ownOf cc scope) := by
          rw [G.N, G.scope]
          exact ok
        have hs : ∀ i ∈ p.slots, i ∈ (ownOf cc scope).map (·.2) := fun i hi => by
          rw [← slots_eq 5 tg p hp] at hi
          have := List.all_eq_true.mp h5 i hi
          simpa using this
        refine good_v rfl (fun _ => rfl) fun Wx tk => ?_
        have hi := (ih sc raw X false it G Wx tk).2.2 tg h2
        have hf : ∀ x, foldedSetIterable it X.env x = pure x := fun x => by
          cases it <;> first | rfl | cases h2
        refine pe_wk (s_lc (m := m) (cs := sems run gl (cs.map (compE cc n (relSc scope sc) false))) (me := sem run gl (compE cc n (relSc scope sc) false elt)) G.calm (G.N ▸ G.nd) hi okX hs hf (fun s H C cl fp => pt_ok (G.blk ok s H C cl fp) 5 tg p hp) (fun s H C cl fp => ?_)
          (fun s H C cl fp => (ih _ _ _ false elt (G.blk ok s H C cl fp) W0 takes0).1)) (lc_read (m := m) hs)
        refine s_tests ?_
        match cs, h3 with
        | [], _ => exact .inl ⟨rfl, rfl⟩
        | [f], _ => exact .inr ⟨f, _, rfl, rfl, (ih _ _ _ false f (G.blk ok s H C cl fp) W0 takes0).2.1⟩
        | _ :: _ :: _, h => simp at h
      · exact good_bad
    · exact good_bad
end
end Cr

namespace Cr
open PySem L2
section
variable {run : Str → List W → M W} {gl : Str → Option D} {cc : CC} {k n : Nat} {sc raw : Scope} {X : Cx} {m : Bool} {pos : Pos}
theorem bi_pair {f : Bi} {x : D} {k : Nat} : True := trivial
/-- where a builtin is walked only -/
theorem good_i {e : Expr} {E : E} {i : Env → M (List D)} (hE : sem run gl E = { ofV (fun _ => M.bad) with i := i }) (h : ∀ Wx, Takes X Wx → ∀ tg, walkOk tg e = true → PI X tg e (iG X Wx i)) : Good3 run gl X e E := fun Wx tk => by
  rw [hE]
  exact ⟨pe_none (tG_bad fun _ _ => rfl), pt_none (tG_bad fun _ _ => rfl), h Wx tk⟩
theorem walk_tup {tg : Expr} {f : Str} {p : Pos} {es : List Expr} {kw : List Keyword} {cp : Pos} (h : walkOk tg (.Call (.Name f p) es kw cp) = true) (hf : f = "enumerate" ∨ f = "zip") : ∃ el kk tp, tg = .Tuple el kk tp := by
  have h : (isTupE tg || !(f == ("enumerate" : Str) || f == ("zip" : Str))) = true := h
  have z : (f == ("enumerate" : Str) || f == ("zip" : Str)) = true := by
    rcases hf with e | e
    · rw [e]; rfl
    · rw [e]; rfl
  rw [z] at h
  cases tg with
  | Tuple el kk tp => exact ⟨el, kk, tp, rfl⟩
  | _ => cases h
theorem c_call (ih : IH run gl cc k n) (G : GX run gl cc k sc raw X) {fn : Expr} {es : List Expr} {kw : List Keyword} : Good3 run gl X (.Call fn es kw pos) (compE cc (n + 1) sc m (.Call fn es kw pos)) := by
  cases kw with
  | cons _ _ => exact good_bad
  | nil =>
    cases fn with
    | Name f p =>
      show Good3 run gl X _ (if !(glob? sc f && noStar es) then .bad
          else if cc.fn f then .call (m || cc.im f) f (es.map (compE cc n sc false))
          else if f == "range" then (if decide (es.length ≤ 3) then .range (es.map (compE cc n sc false)) else .bad)
          else if f == "isinstance" then match es with
            | [a, t] => match tyE cc sc t with
              | some t => .isI (compE cc n sc false a) t
              | none => .bad
            | _ => .bad
          else if f == "enumerate" then match es with
            | [a] => .enum (compE cc n sc false a)
            | _ => .bad
          else if f == "zip" then match es with
            | [a, b] => .zip (compE cc n sc false a) (compE cc n sc false b)
            | _ => .bad
          else match biOf f es.length with
            | some b => .bi m b (es.map (compE cc n sc false))
            | none => .bad)
      split
      · exact good_bad
      · rename_i h
        have h : (glob? sc f && noStar es) = true := by simpa using h
        obtain ⟨h1, h2⟩ := and2 h
        obtain ⟨g1, g2⟩ := glob_ok h1
        have gf := G.g g1
        have A : ∀ e ∈ es, Good3 run gl X e (compE cc n sc false e) := fun e _ => ih sc raw X false e G
        split
        · rename_i hf
          have F := G.fns f hf
          cases hm : (m || cc.im f) with
          | true => exact good_v rfl (fun _ => rfl) fun Wx tk => s_callM tk G.room gf F g2 (pes_of tk A h2)
          | false => exact good_v rfl (fun _ => rfl) fun Wx tk => s_call tk G.room gf F g2 (pes_of tk A h2)
        · rename_i hf
          have hf : cc.fn f = false := by simpa using hf
          split
          · rename_i e
            have e : f = "range" := eq_of_beq e
            subst e
            split
            · rename_i hl
              exact good_i rfl fun Wx tk tg _ => s_range gf (G.bis _ hf (.inr (.inr (.inl rfl)))) (of_decide_eq_true hl) (pes_of tk A h2)
            · exact good_bad
          · split
            · rename_i e
              have e : f = "isinstance" := eq_of_beq e
              subst e
              match es, h2, A with
              | [a, t], h2, A =>
                show Good3 run gl X _ (match tyE cc sc t with
                  | some t => .isI (compE cc n sc false a) t
                  | none => .bad)
                split
                · rename_i ty hty
                  cases t with
                  | Name x p2 =>
                    have hty : (if (glob? sc x && !cc.fn x) = true then tyOf x else none) = some ty := hty
                    by_cases hx : (glob? sc x && !cc.fn x) = true
                    · rw [if_pos hx] at hty
                      obtain ⟨hx1, hx2⟩ := and2 hx
                      have hx2 : cc.fn x = false := by simpa using hx2
                      have ex := tyOf_eq hty
                      subst ex
                      have hs : isStar a = false := by
                        have h2 : (!isStar a && (!isStar (Expr.Name (tyS ty) p2) && true)) = true := h2
                        simpa using (and2 h2).1
                      exact good_v rfl (fun _ => rfl) fun Wx tk => s_isI gf (G.bis _ hf (.inr (.inr (.inr (.inr (.inr rfl)))))) (G.g (glob_ok hx1).1) (G.bis _ hx2 (.inr (.inl ⟨ty, rfl⟩))) hs (A a (by simp) Wx tk).1
                    · rw [if_neg hx] at hty
                      cases hty
                  | _ => cases hty
                · exact good_bad
              | [], _, _ => exact good_bad
              | [_], _, _ => exact good_bad
              | _ :: _ :: _ :: _, _, _ => exact good_bad
            · split
              · rename_i e
                have e : f = "enumerate" := eq_of_beq e
                subst e
                match es, h2, A with
                | [a], h2, A =>
                  have hs : isStar a = false := by
                    have h2 : (!isStar a && true) = true := h2
                    simpa using (and2 h2).1
                  refine good_i rfl fun Wx tk tg hw => ?_
                  obtain ⟨el, kk, tp, rfl⟩ := walk_tup hw (.inl rfl)
                  exact s_enum gf (G.bis _ hf (.inr (.inr (.inr (.inl rfl))))) hs (A a (by simp) Wx tk).1
                | [], _, _ => exact good_bad
                | _ :: _ :: _, _, _ => exact good_bad
              · split
                · rename_i e
                  have e : f = "zip" := eq_of_beq e
                  subst e
                  match es, h2, A with
                  | [a, b], h2, A =>
                    have h2 : (!isStar a && (!isStar b && true)) = true := h2
                    obtain ⟨q1, q2⟩ := and2 h2
                    obtain ⟨q2, _⟩ := and2 q2
                    have q1 : isStar a = false := by simpa using q1
                    have q2 : isStar b = false := by simpa using q2
                    refine good_i rfl fun Wx tk tg hw => ?_
                    obtain ⟨el, kk, tp, rfl⟩ := walk_tup hw (.inr rfl)
                    exact s_zip gf (G.bis _ hf (.inr (.inr (.inr (.inr (.inl rfl)))))) q1 q2 (A a (by simp) Wx tk).1 (A b (by simp) Wx tk).1
                  | [], _, _ => exact good_bad
                  | [_], _, _ => exact good_bad
                  | _ :: _ :: _ :: _, _, _ => exact good_bad
                · split
                  · rename_i b hb
                    have e := biOf_eq hb
                    subst e
                    have ne : es ≠ [] := by
                      intro z
                      subst z
                      unfold biOf at hb
                      simp at hb
                    exact good_v rfl (fun _ => rfl) fun Wx tk => s_bi G.calm gf (G.bis _ hf (.inl ⟨b, rfl⟩)) ne (pes_of tk A h2)
                  · exact good_bad
    | Attribute o f ap =>
      show Good3 run gl X _ (if !(noStar es && ap.endLine == pos.line && !isSuper o) then .bad
          else match es with
            | [a] => if f == "append" then .app (compE cc n sc false o) (compE cc n sc false a) else match mtOf f 1 with
              | some b => .mt m b (compE cc n sc false o) [compE cc n sc false a]
              | none => .bad
            | _ => .bad)
      split
      · exact good_bad
      · rename_i h
        have h : (noStar es && ap.endLine == pos.line && !isSuper o) = true := by simpa using h
        obtain ⟨h1, h2, h3⟩ := and3 h
        have h3 : isSuper o = false := by simpa using h3
        have O := ih sc raw X false o G
        match es, h1 with
        | [], _ => exact good_bad
        | _ :: _ :: _, _ => exact good_bad
        | [a], h1 =>
          have A := ih sc raw X false a G
          have hs : isStar a = false := by
            have h1 : (!isStar a && true) = true := h1
            simpa using (and2 h1).1
          show Good3 run gl X _ (if f == "append" then .app (compE cc n sc false o) (compE cc n sc false a) else match mtOf f 1 with
              | some b => .mt m b (compE cc n sc false o) [compE cc n sc false a]
              | none => .bad)
          split
          · rename_i e
            have e : f = "append" := eq_of_beq e
            subst e
            exact good_v rfl (fun _ => rfl) fun Wx tk => s_app (O Wx tk).1 (A Wx tk).1 hs h3 h2
          · split
            · rename_i b hb
              have e := mtOf_eq hb
              subst e
              exact good_v rfl (fun _ => rfl) fun Wx tk => s_mt (O Wx tk).1 (.cons hs (A Wx tk).1 .nil) (by simp) (by simp) h3 h2
            · exact good_bad
    | _ => exact good_bad
/-- THE THEOREM about expressions -/
theorem sound_e : ∀ n : Nat, IH run gl cc k n
  | 0 => fun sc raw X m e G => good_bad
  | n + 1 => fun sc raw X m e G => by
    have ih := sound_e n
    cases e with
    | Name x pos => exact c_name G
    | Constant c j pos => exact c_con
    | Tuple es j pos => exact c_tup ih G
    | List es pos => exact c_list ih G
    | BinOp a op b pos => exact c_bin ih G
    | UnaryOp op a pos => exact c_un ih G
    | Compare a ops bs pos =>
      match ops, bs with
      | [op], [b] => exact c_cmp ih G
      | [op, op2], [b, d] => exact c_cmp2 ih G
      | [], _ => exact good_bad
      | [_], [] => exact good_bad
      | [_], _ :: _ :: _ => exact good_bad
      | [_, _], [] => exact good_bad
      | [_, _], [_] => exact good_bad
      | [_, _], _ :: _ :: _ :: _ => exact good_bad
      | _ :: _ :: _ :: _, _ => exact good_bad
    | BoolOp op es pos => exact c_bool ih G
    | IfExp t a b pos => exact c_ite ih G
    | Subscript a i pos => exact c_sub ih G
    | JoinedStr es pos => exact c_fs ih G
    | FormattedValue a cv sp pos => exact c_fmt ih G
    | ListComp elt gens scope pos => exact c_lc ih G
    | Call fn es kw pos => exact c_call ih G
    | _ => exact good_bad
end
end Cr

namespace Cr
open PySem L2
/-- what a statement's outcome promises -/
def PostS (K : KF) (mg : Str → Option Value) (Wx : WX) (D : Ends) (c : Cfg) (H : Hp) (r : SR) : Prop := match r with
  | .ok .next ρ st => ∀ c' H' σ', c'.st = st → Ext c H c' H' → Ok K c' H' → ERel K c' ρ σ' → D.nx σ' H'
  | .ok .brk ρ st => ∀ c' H' σ', c'.st = st → Ext c H c' H' → Ok K c' H' → ERel K c' ρ σ' → D.bk σ' H'
  | .ok .cont ρ st => ∀ c' H' σ', c'.st = st → Ext c H c' H' → Ok K c' H' → ERel K c' ρ σ' → D.ct σ' H'
  | .ok (.ret w) _ st => ∀ c' H' v, c'.st = st → Ext c H c' H' → Ok K c' H' → WDen K c' w v → D.rt v H'
  | .ok (.exc x d) ρ st => ∀ c' H' σ' cls da, c'.st = st → Ext c H c' H' → Ok K c' H' → ERel K c' ρ σ' → XR K mg c'.B x d cls da → Wx cls da σ' H'
  | .bad => False
def sG (K : KF) (mg : Str → Option Value) (Wx : WX) (m : Env → Store → SR) : TS := fun D σ H => ∃ c ρ, Ok K c H ∧ ERel K c ρ σ ∧ PostS K mg Wx D c H (m ρ c.st)
section
variable {K : KF} {mg : Str → Option Value} {Wx : WX} {D : Ends} {c c1 : Cfg} {H H1 : Hp} {σ : L2.St} {ρ : Env}
theorem PostS.later {r : SR} (o : Ok K c1 H1) (e : Ext c H c1 H1) (h : PostS K mg Wx D c H r) : PostS K mg Wx D c1 H1 r := by
  cases r with
  | bad => exact h
  | ok f ρ st =>
    cases f with
    | next => exact fun c' H' σ' h1 h2 h3 h4 => h c' H' σ' h1 (Ext.trans o e h2) h3 h4
    | brk => exact fun c' H' σ' h1 h2 h3 h4 => h c' H' σ' h1 (Ext.trans o e h2) h3 h4
    | cont => exact fun c' H' σ' h1 h2 h3 h4 => h c' H' σ' h1 (Ext.trans o e h2) h3 h4
    | ret w => exact fun c' H' v h1 h2 h3 h4 => h c' H' v h1 (Ext.trans o e h2) h3 h4
    | exc x d => exact fun c' H' σ' cls da h1 h2 h3 h4 h5 => h c' H' σ' cls da h1 (Ext.trans o e h2) h3 h4 h5
theorem PostS.next {ρ' : Env} (o : Ok K c H) (e : ERel K c ρ' σ) (h : PostS K mg Wx D c H (.ok .next ρ' c.st)) : D.nx σ H := h c H σ rfl (Ext.refl c H) o e
/-- an expression ahead -/
theorem sG.exS {α β : Type} {m : Env → M α} {k : α → Store → SR} {R : Cfg → Hp → α → β → Prop} (o : Ok K c H) (e : ERel K c ρ σ) (h : PostS K mg Wx D c H (exS (m ρ c.st) ρ k)) :
    tG K mg Wx m R σ H fun b H1 => ∃ c1 a, Ext c H c1 H1 ∧ Ok K c1 H1 ∧ ERel K c1 ρ σ ∧ R c1 H1 a b ∧ PostS K mg Wx D c1 H1 (k a c1.st) := by
  refine ⟨c, ρ, o, e, ?_⟩
  generalize m ρ c.st = r at h
  cases r with
  | ok a st =>
    intro c' H' b h1 h2 h3 h4
    subst h1
    exact ⟨c', a, h2, h3, e.mono h2, h4, PostS.later h3 h2 h⟩
  | exc x d st => exact fun c' H' cls da h1 h2 h3 h4 => h c' H' σ cls da h1 h2 h3 (e.mono h2) h4
  | bad => exact h.elim
end
section
variable {X : Cx} {Wx : WX} {st : Stmt} {rest : List Stmt} {e : Expr} {pos : Pos} {v : Env → M W}
abbrev zG (X : Cx) (Wx : WX) (m : Env → Store → SR) : TS := sG X.K X.mg Wx m
theorem ps_wk {t t' : TS} (h : PS X st t) (w : ∀ D σ H, t' D σ H → t D σ H) : PS X st t' := ⟨fun pins s σ H D I q => h.run pins s σ H D I (w D σ H q)⟩
theorem pss_wk {st : List Stmt} {t t' : TS} (h : PSs X st t) (w : ∀ D σ H, t' D σ H → t D σ H) : PSs X st t' := ⟨fun pins s σ H D I q => h.run pins s σ H D I (w D σ H q)⟩
theorem ps_bad : PS X st (zG X Wx fun _ _ => .bad) := ⟨fun _ _ _ _ _ _ ⟨_, _, _, _, h⟩ => h.elim⟩
theorem s_pass : PS X (.Pass pos) (zG X Wx fun ρ s => .ok .next ρ s) := ps_wk ps_pass fun D σ H ⟨c, ρ, o, e, p⟩ => p.next o e
theorem s_brk : PS X (.Break pos) (zG X Wx fun ρ s => .ok .brk ρ s) := ps_wk ps_break fun D σ H ⟨c, ρ, o, e, p⟩ => p c H σ rfl (Ext.refl c H) o e
theorem s_cont : PS X (.Continue pos) (zG X Wx fun ρ s => .ok .cont ρ s) := ps_wk ps_continue fun D σ H ⟨c, ρ, o, e, p⟩ => p c H σ rfl (Ext.refl c H) o e
theorem swaps_no {tg : Option Expr} {l : Nat} {env : PySem.Env} (h : isComp e = false) : swapsWith e tg l env = pure false := by
  cases e <;> first | rfl | cases h
theorem s_expr (he : PE X e (vG X Wx v)) (hc : isComp e = false) : PS X (.Expr e pos) (zG X Wx fun ρ s => exS (v ρ s) ρ fun _ s => .ok .next ρ s) :=
  ps_wk (ps_expr he (swaps_no hc)) fun D σ H ⟨c, ρ, o, er, p⟩ => (sG.exS o er p).imp fun y H1 ⟨c1, w, e1, o1, er1, d1, p1⟩ => p1.next o1 er1
theorem s_ret (he : PE X e (vG X Wx v)) : PS X (.Return (some e) pos) (zG X Wx fun ρ s => exS (v ρ s) ρ fun w s => .ok (.ret w) ρ s) :=
  ps_wk (ps_ret he) fun D σ H ⟨c, ρ, o, er, p⟩ => (sG.exS o er p).imp fun y H1 ⟨c1, w, e1, o1, er1, d1, p1⟩ => p1 c1 H1 y rfl (Ext.refl c1 H1) o1 d1
theorem s_retN : PS X (.Return none pos) (zG X Wx fun ρ s => exS (M.pure (W.d .non) s) ρ fun w s => .ok (.ret w) ρ s) :=
  ps_wk ps_retN fun D σ H ⟨c, ρ, o, er, p⟩ => p c H .non rfl (Ext.refl c H) o .non
theorem s_if {a b : List Stmt} {t : Env → M Bool} {ma mb : Env → Store → SR} (he : PT X e (bG X Wx t)) (ha : PSs X a (zG X Wx ma)) (hb : PSs X b (zG X Wx mb)) :
    PS X (.If e a b pos) (zG X Wx fun ρ s => exS (t ρ s) ρ fun t s => if t then ma ρ s else mb ρ s) :=
  ps_wk (ps_if he ha hb) fun D σ H ⟨c, ρ, o, er, p⟩ => (sG.exS o er p).imp fun b H1 ⟨c1, w, e1, o1, er1, d1, p1⟩ => by
    have d1 : w = b := d1
    subst d1
    cases w with
    | true => exact ⟨c1, ρ, o1, er1, p1⟩
    | false => exact ⟨c1, ρ, o1, er1, p1⟩
theorem ss_nil : PSs X [] (zG X Wx fun ρ s => .ok .next ρ s) := pss_wk pss_nil fun D σ H ⟨c, ρ, o, e, p⟩ => p.next o e
def seqS (m k : Env → Store → SR) : Env → Store → SR := fun ρ s => match m ρ s with
  | .ok .next ρ s => k ρ s
  | r => r
theorem ss_cons {m k : Env → Store → SR} (h : PS X st (zG X Wx m)) (hr : PSs X rest (zG X Wx k)) : PSs X (st :: rest) (zG X Wx (seqS m k)) :=
  pss_wk (pss_cons h hr) fun D σ H ⟨c, ρ, o, e, p⟩ => by
    refine ⟨c, ρ, o, e, ?_⟩
    have p : PostS X.K X.mg Wx D c H (match m ρ c.st with | .ok .next ρ s => k ρ s | r => r) := p
    generalize m ρ c.st = r at p
    cases r with
    | bad => exact p
    | ok f ρ1 st =>
      cases f with
      | next =>
        intro c' H' σ' h1 h2 h3 h4
        subst h1
        exact ⟨c', ρ1, h3, h4, PostS.later h3 h2 p⟩
      | _ => exact p
theorem loop_step {r : SR} {k : Env → Store → SR} {D : Ends} {c : Cfg} {H : Hp} (p : PostS X.K X.mg Wx D c H (match r with
      | .ok .next ρ s => k ρ s
      | .ok .cont ρ s => k ρ s
      | .ok .brk ρ s => .ok .next ρ s
      | r => r)) : PostS X.K X.mg Wx { D with nx := fun σ' H' => ∃ c' ρ', Ext c H c' H' ∧ Ok X.K c' H' ∧ ERel X.K c' ρ' σ' ∧ PostS X.K X.mg Wx D c' H' (k ρ' c'.st), ct := fun σ' H' => ∃ c' ρ', Ext c H c' H' ∧ Ok X.K c' H' ∧ ERel X.K c' ρ' σ' ∧ PostS X.K X.mg Wx D c' H' (k ρ' c'.st), bk := D.nx } c H r := by
  cases r with
  | bad => exact p
  | ok f ρ1 st =>
    cases f with
    | next =>
      intro c' H' σ' h1 h2 h3 h4
      subst h1
      exact ⟨c', ρ1, h2, h3, h4, PostS.later h3 h2 p⟩
    | cont =>
      intro c' H' σ' h1 h2 h3 h4
      subst h1
      exact ⟨c', ρ1, h2, h3, h4, PostS.later h3 h2 p⟩
    | _ => exact p
theorem s_while {b : List Stmt} {t : Env → M Bool} {mb : Env → Store → SR} (po : PassesOwn (model X.prog X.w) X.A X.env X.xe) (he : PT X e (bG X Wx t)) (hb : PSs X b (zG X Wx mb)) (n : Nat) :
    PS X (.While e b [] pos) (zG X Wx (whileLoop t mb n)) :=
  ps_wk (ps_while po he hb) fun D σ H ⟨c, ρ, o, er, p⟩ => by
    refine ⟨fun m σ' H' => ∃ c' ρ', Ok X.K c' H' ∧ ERel X.K c' ρ' σ' ∧ PostS X.K X.mg Wx D c' H' (whileLoop t mb m ρ' c'.st), ⟨n, c, ρ, o, er, p⟩, ?_⟩
    rintro m σ1 H1 ⟨c1, ρ1, o1, er1, p1⟩
    cases m with
    | zero => exact p1.elim
    | succ m =>
      refine (sG.exS o1 er1 p1).imp fun b H2 ⟨c2, w, e2, o2, er2, d2, p2⟩ => ?_
      have d2 : w = b := d2
      subst d2
      cases w with
      | false => exact p2.next o2 er2
      | true =>
        refine (if_pos rfl : (if True then _ else _) = _) ▸ ?_
        exact ⟨_, fun σ' H' h => ⟨m, Nat.lt_succ_self _, h.elim fun c' h => h.elim fun ρ' h => ⟨c', ρ', h.2.1, h.2.2.1, h.2.2.2⟩⟩, c2, ρ1, o2, er2, loop_step p2⟩
end
end Cr
namespace Cr
open PySem L2
section
variable {X : Cx} {Wx : WX} {st : Stmt} {rest : List Stmt} {e : Expr} {pos : Pos} {v : Env → M W}
theorem s_for {tg : Expr} {b : List Stmt} {p : Pt} {mi : Env → M (List D)} {mb : Env → Store → SR} (po : PassesOwn (model X.prog X.w) X.A X.env X.xe) (hc : X.calm = true) (hi : PI X tg e (iG X Wx mi)) (hg : PG X tg (gP X.K p)) (hb : PSs X b (zG X Wx mb))
    (hf : ∀ x, foldedSetIterable e X.env x = pure x) : PS X (.For tg e b [] pos) (zG X Wx fun ρ s => exS (mi ρ s) ρ fun xs s => forLoop (forBody p mb) xs ρ s) :=
  ps_wk (ps_for po hc hi hg hb hf) fun D σ H ⟨c, ρ, o, er, q⟩ => (sG.exS o er q).imp fun J H1 ⟨c1, xs, e1, o1, er1, wk, p1⟩ => by
    refine ⟨fun i k σ' H' => i ≤ xs.length ∧ k = xs.length - i ∧ ∃ c' ρ', Ext c1 H1 c' H' ∧ Ok X.K c' H' ∧ ERel X.K c' ρ' σ' ∧ PostS X.K X.mg Wx D c' H' (forLoop (forBody p mb) (xs.drop i) ρ' c'.st),
      ⟨xs.length, Nat.zero_le _, rfl, c1, ρ, Ext.refl c1 H1, o1, er1, p1⟩, ?_⟩
    rintro i k σ1 H' ⟨hi, rfl, c', ρ', e', o', er', q'⟩
    have wi := wk i c' H' e' o'
    by_cases hlt : i < xs.length
    · have hx : xs[i]? = some xs[i] := List.getElem?_eq_getElem hlt
      obtain ⟨go, yl⟩ := wi.2 _ hx
      refine .inr ⟨go, fun σ2 H2 => i + 1 ≤ xs.length ∧ ∃ c2 ρ2, Ext c1 H1 c2 H2 ∧ Ok X.K c2 H2 ∧ ERel X.K c2 ρ2 σ2 ∧ PostS X.K X.mg Wx D c2 H2 (forLoop (forBody p mb) (xs.drop (i + 1)) ρ2 c2.st),
        fun σ2 H2 h => ⟨xs.length - (i + 1), by omega, h.1, rfl, h.2⟩, fun u H2 hy => ?_⟩
      obtain ⟨c2, s2, e2, o2, d2⟩ := yl u H2 hy
      have eD : xs.drop i = xs[i] :: xs.drop (i + 1) := List.drop_eq_getElem_cons hlt
      rw [eD] at q'
      generalize xs[i] = x at q' d2
      have q2 : PostS X.K X.mg Wx D c' H' (match forBody p mb x ρ' c'.st with
        | .ok .next ρ s => forLoop (forBody p mb) (xs.drop (i + 1)) ρ s
        | .ok .cont ρ s => forLoop (forBody p mb) (xs.drop (i + 1)) ρ s
        | .ok .brk ρ s => .ok .next ρ s
        | r => r) := q'
      have q3 := loop_step (q2.later o2 e2)
      have er2 : ERel X.K c2 ρ' σ1 := er'.mono e2
      have q3 : PostS X.K X.mg Wx _ c2 H2 (match bindPt p (.d x) ρ' with | some ρ => mb ρ c'.st | none => .bad) := q3
      cases hb : bindPt p (.d x) ρ' with
      | none =>
        rw [hb] at q3
        exact q3.elim
      | some ρ2 =>
        rw [hb] at q3
        refine ⟨c2, ρ', .d x, ρ2, o2, er2, d2, hb, fun σ2 er3 _ => ⟨c2, ρ2, o2, er3, ?_⟩⟩
        rw [← s2] at q3
        have e12 := Ext.trans o' e' e2
        replace q3 : PostS X.K X.mg Wx _ c2 H2 (mb ρ2 c2.st) := q3
        generalize mb ρ2 c2.st = r at q3 ⊢
        cases r with
        | bad => exact q3
        | ok f ρ3 st =>
          cases f with
          | next => exact fun c3 H3 σ3 h1 h2 h3 h4 => (q3 c3 H3 σ3 h1 h2 h3 h4).elim fun c4 h => h.elim fun ρ4 h => ⟨hlt, c4, ρ4, Ext.trans o2 e12 h.1, h.2.1, h.2.2.1, h.2.2.2⟩
          | cont => exact fun c3 H3 σ3 h1 h2 h3 h4 => (q3 c3 H3 σ3 h1 h2 h3 h4).elim fun c4 h => h.elim fun ρ4 h => ⟨hlt, c4, ρ4, Ext.trans o2 e12 h.1, h.2.1, h.2.2.1, h.2.2.2⟩
          | _ => exact q3
    · have hx : xs[i]? = none := List.getElem?_eq_none (by omega)
      refine .inl ⟨wi.1 (by omega), ?_⟩
      rw [List.drop_eq_nil_of_le (by omega)] at q'
      exact q'.next o' er'
theorem asg_post {D : Ends} {p : Pt} {σ : L2.St} {H : Hp} {c : Cfg} {ρ : Env} (o : Ok X.K c H) (er : ERel X.K c ρ σ) (q : PostS X.K X.mg Wx D c H (exS (v ρ c.st) ρ fun w s => asgS (bindPt p w ρ) s)) :
    tAsg (vG X Wx v) (gP X.K p) D σ H := (sG.exS o er q).imp fun u H1 ⟨c1, w, e1, o1, er1, d1, p1⟩ => by
  have p1 : PostS X.K X.mg Wx D c1 H1 (match bindPt p w ρ with | some ρ => .ok .next ρ c1.st | none => .bad) := p1
  cases hb : bindPt p w ρ with
  | none =>
    rw [hb] at p1
    exact p1.elim
  | some ρ' =>
    rw [hb] at p1
    exact ⟨c1, ρ, w, ρ', o1, er1, d1, hb, fun σ' er' _ => p1 c1 H1 σ' rfl (Ext.refl c1 H1) o1 er'⟩
theorem s_asg {tg : Expr} {p : Pt} (he : PE X e (vG X Wx v)) (hg : PG X tg (gP X.K p)) (hc : isComp e = false) (ht : isStar tg = false) (hw : swappedStores [tg] e X.env = pure none) :
    PS X (.Assign [tg] e pos) (zG X Wx fun ρ s => exS (v ρ s) ρ fun w s => asgS (bindPt p w ρ) s) :=
  ps_wk (ps_asg he hg (swaps_no hc) hw (by rw [assignEach_ne ht]; rfl)) fun D σ H ⟨c, ρ, o, er, q⟩ => asg_post o er q
theorem gName_of {i : Nat} {v : V} {σ : L2.St} {H : Hp} {Q : L2.St → Hp → Prop} (h : gP X.K (.name i) v σ H Q) : gName i v σ H Q := by
  obtain ⟨c, ρ, w, ρ', o, er, d, hb, k⟩ := h
  cases hb
  exact k _ (er.set d) ⟨by simp, fun j hj => by
    have : i ≠ j := fun e => hj (by simp [Pt.slots, e])
    rw [List.getElem?_set_ne this]⟩
end
end Cr

namespace Cr
open PySem L2
section
variable {run : Str → List W → M W} {gl : Str → Option D} {cc : CC} {k n : Nat} {sc raw : Scope} {X : Cx} {m : Bool} {pos : Pos}
theorem name_pt {x : Str} {tp : Pos} {p : Pt} (h : compPt cc sc 5 (.Name x tp) = some p) : ∃ i, p = .name i ∧ slot? cc sc x = some i := by
  obtain ⟨i, hi, h⟩ := Option.bind_eq_some_iff.mp (show ((slot? cc sc x).bind fun i => match sc.names.lookup x with | some .local | some .cell => some (Pt.name i) | _ => none) = some p from h)
  split at h
  · cases h; exact ⟨i, rfl, hi⟩
  · cases h; exact ⟨i, rfl, hi⟩
  · cases h
theorem c_setLc {Wx : WX} (tk : Takes X Wx) (ih : IH run gl cc k n) (G : GX run gl cc k sc sc X) {elt : Expr} {gens : List Comprehension} {scope : Scope} {x : Str} {tp ep : Pos} {p : Pt} (hp : compPt cc sc 5 (.Name x tp) = some p) (hsw : lcSwap sc scope x tp ep = true) :
    PS X (.Assign [.Name x tp] (.ListComp elt gens scope ep) pos) (zG X Wx fun ρ s => exS ((sem run gl (compE cc (n + 1) sc m (.ListComp elt gens scope ep))).v ρ s) ρ fun w s => asgS (bindPt p w ρ) s) := by
  obtain ⟨j, rfl, hj⟩ := name_pt hp
  obtain ⟨hN, _⟩ := slot_ok hj
  have hw0 : (sc.names.lookup x == some NameKind.local && tp.line == ep.line && !stepNames scope x) = true := hsw
  obtain ⟨hl, hw2, hw3⟩ := and3 hw0
  have hl : sc.names.lookup x = some .local := by simpa using hl
  have bad : PS X (.Assign [.Name x tp] (.ListComp elt gens scope ep) pos) (zG X Wx fun ρ s => exS ((sem run gl .bad).v ρ s) ρ fun w s => asgS (bindPt (.name j) w ρ) s) := ps_bad
  match gens with
  | [] => exact bad
  | ⟨_, _, _, _⟩ :: ⟨_, _, _, _⟩ :: _ => exact bad
  | [⟨tg, it, cs, isa⟩] =>
    show PS X _ (zG X Wx fun ρ s => exS ((sem run gl (match compPt cc scope 5 tg with
        | some p => if L2.blkC cc.N sc scope (ownOf cc scope) && walkOk tg it && decide (cs.length ≤ 1) && decide (isa = 0) && (ptSlots 5 p).all fun i => ((ownOf cc scope).map (·.2)).contains i then
            .lc m (compE cc n (relSc scope sc) false elt) p (compE cc n sc false it) (cs.map (compE cc n (relSc scope sc) false)) ((ownOf cc scope).map (·.2)) else .bad
        | none => .bad)).v ρ s) ρ fun w s => asgS (bindPt (.name j) w ρ) s)
    split
    · rename_i p hp
      split
      · rename_i h
        obtain ⟨h, h5⟩ := and2 h
        obtain ⟨h, h4⟩ := and2 h
        obtain ⟨h1, h2, h3⟩ := and3 h
        have h4 := of_decide_eq_true h4
        subst h4
        have ok := own_ok h1
        have okX : BlkOk X.N X.env.scope scope (ownOf cc scope) := by
          rw [G.N, G.scope]
          exact ok
        have hs : ∀ i ∈ p.slots, i ∈ (ownOf cc scope).map (·.2) := fun i hi => by
          rw [← slots_eq 5 tg p hp] at hi
          have := List.all_eq_true.mp h5 i hi
          simpa using this
        have hi := (ih sc sc X false it G Wx tk).2.2 tg h2
        have hf : ∀ x, foldedSetIterable it X.env x = pure x := fun x => by
          cases it <;> first | rfl | cases h2
        have ht : ∀ (s : Shared) (H : Hp) (C : Addr) (cl : List (Str × Addr)) (fp : List Addr), PTs (X.blk s H scope (compEnvC scope cl C X.env) fp) cs (tG X.K X.mg W0 (smT (sems run gl (cs.map (compE cc n (relSc scope sc) false)))) RB) := fun s H C cl fp => by
          refine s_tests ?_
          match cs, h3 with
          | [], _ => exact .inl ⟨rfl, rfl⟩
          | [f], _ => exact .inr ⟨f, _, rfl, rfl, (ih _ _ _ false f (G.blk ok s H C cl fp) W0 takes0).2.1⟩
          | _ :: _ :: _, h => simp at h
        have he : ∀ (s : Shared) (H : Hp) (C : Addr) (cl : List (Str × Addr)) (fp : List Addr), PE (X.blk s H scope (compEnvC scope cl C X.env) fp) elt (tG X.K X.mg W0 (sem run gl (compE cc n (relSc scope sc) false elt)).v (RW X.K)) :=
          fun s H C cl fp => (ih _ _ _ false elt (G.blk ok s H C cl fp) W0 takes0).1
        have hy : X.N[j]? = some x := by rw [G.N]; exact hN
        have hyl : X.env.scope.names.lookup x = some .local := by rw [G.scope]; exact hl
        refine ⟨fun pins s σ H D I h => ?_⟩
        have sw : swapsWith (.ListComp elt [⟨tg, it, cs, 0⟩] scope ep) (some (.Name x tp)) pos.line X.env = pure true := by
          show pure (X.env.blockKind == .function && X.env.kindOf x == some .local && tp.line == ep.line && !(stepNames scope x)) = (pure true : Sem Bool)
          have e1 : X.env.blockKind = .function := by
            unfold PySem.Env.blockKind
            rw [I.ok.kind]
            rfl
          have e2 : X.env.kindOf x = some .local := hyl
          rw [e1, e2, hw2, hw3]
          rfl
        refine (ps_setLc (wi := iG X Wx (sem run gl (compE cc n sc false it)).i) (g := gP X.K p) (tt := tG X.K X.mg W0 (smT (sems run gl (cs.map (compE cc n (relSc scope sc) false)))) RB) (te := tG X.K X.mg W0 (sem run gl (compE cc n (relSc scope sc) false elt)).v (RW X.K)) (pos := ep) (spos := pos) (py := tp) G.calm (G.N ▸ G.nd) hy hyl sw hi okX (fun s H C cl fp => pt_ok (G.blk ok s H C cl fp) 5 tg p hp) ht he hf).run pins s σ H D I ?_
        obtain ⟨c, ρ, o, er, q⟩ := h
        exact lc_read (m := m) hs _ _ _ ((asg_post o er q).imp fun v H' q => gName_of q)
      · exact bad
    · exact bad

theorem c_name_asg {Wx : WX} (tk : Takes X Wx) (G : GX run gl cc k sc sc X) {x : Str} {tp : Pos} {e : Expr} : PS X (.Assign [.Name x tp] e pos) (zG X Wx (evS run gl (compName cc sc (.Name x tp) x tp e))) := by
  have main : ∀ p, compPt cc sc 5 (.Name x tp) = some p → isComp e = false → PS X (.Assign [.Name x tp] e pos) (zG X Wx (evS run gl (.asg p (compE cc fuel sc (cc.mv x) e)))) := fun p hp hc => by
    have he := (sound_e fuel sc sc X (cc.mv x) e G Wx tk).1
    exact s_asg he (pt_ok G 5 _ p hp) hc rfl (by cases e <;> rfl)
  have bad : PS X (.Assign [.Name x tp] e pos) (zG X Wx (evS run gl .bad)) := ps_bad
  unfold compName
  cases hp : compPt cc sc 5 (.Name x tp) with
  | none => exact bad
  | some p =>
    cases e with
    | SetComp => exact bad
    | DictComp => exact bad
    | ListComp elt gens scope ep =>
      show PS X _ (zG X Wx (evS run gl (if lcSwap sc scope x tp ep then .asg p (compE cc fuel sc (cc.mv x) (.ListComp elt gens scope ep)) else .bad)))
      split
      · rename_i h
        exact c_setLc (n := 39) tk (sound_e 39) G hp h
      · exact bad
    | _ => exact main p hp rfl
theorem c_asg {Wx : WX} (tk : Takes X Wx) (G : GX run gl cc k sc sc X) {e tg : Expr} : PS X (.Assign [tg] e pos) (zG X Wx (evS run gl (compAsg cc sc e tg))) := by
  have bad : PS X (.Assign [tg] e pos) (zG X Wx (evS run gl .bad)) := ps_bad
  cases tg with
  | Name x tp => exact c_name_asg tk G
  | Tuple es j tp =>
    show PS X _ (zG X Wx (evS run gl (if isTup e || isComp e then .bad else match compPt cc sc 5 (.Tuple es j tp) with
    | some p => .asg p (compE cc fuel sc false e)
    | none => .bad)))
    split
    · exact bad
    · rename_i h
      have h : (isTup e || isComp e) = false := by simpa using h
      obtain ⟨h1, h2⟩ := Bool.or_eq_false_iff.mp h
      split
      · rename_i p hp
        exact s_asg (sound_e fuel sc sc X false e G Wx tk).1 (pt_ok G 5 _ p hp) h2 rfl (by cases e <;> first | rfl | cases h1)
      · exact bad
  | _ => exact bad
theorem ss_map {Wx : WX} {f : Stmt → S} : ∀ {b : List Stmt}, (∀ st ∈ b, PS X st (zG X Wx (evS run gl (f st)))) → PSs X b (zG X Wx (evSs run gl (b.map f)))
  | [], _ => ss_nil
  | st :: b, h => ss_cons (h st (by simp)) (ss_map fun s hs => h s (by simp [hs]))
theorem evS_while {c : E} {b : List S} : evS run gl (.while c b) = whileLoop (evT run gl c) (evSs run gl b) noFuel := by
  funext ρ s
  rw [evS]
/-- THE THEOREM about statements -/
theorem sound_s {Wx : WX} (tk : Takes X Wx) (po : PassesOwn (model X.prog X.w) X.A X.env X.xe) (G : GX run gl cc k sc sc X) : ∀ (n : Nat) (st : Stmt), PS X st (zG X Wx (evS run gl (compS cc sc n st)))
  | 0, st => ps_bad
  | n + 1, st => by
    have bad : PS X st (zG X Wx (evS run gl .bad)) := ps_bad
    have ih := fun s => sound_s tk po G n s
    have ex := fun m e => sound_e fuel sc sc X m e G Wx tk
    cases st with
    | Assign tgs e pos =>
      match tgs with
      | [tg] => exact c_asg tk G
      | [] => exact bad
      | _ :: _ :: _ => exact bad
    | Expr e pos =>
      show PS X _ (zG X Wx (evS run gl (if isComp e then .bad else .expr (compE cc fuel sc false e))))
      split
      · exact bad
      · rename_i h
        exact s_expr (ex false e).1 (by simpa using h)
    | Return r pos =>
      cases r with
      | none => exact s_retN
      | some e => exact s_ret (ex cc.rm e).1
    | If t a b pos => exact s_if (ex false t).2.1 (ss_map fun s _ => ih s) (ss_map fun s _ => ih s)
    | While t b el pos =>
      cases el with
      | nil =>
        show PS X _ (zG X Wx (evS run gl (.while (compE cc fuel sc false t) (b.map (compS cc sc n)))))
        rw [evS_while]
        exact s_while po (ex false t).2.1 (ss_map fun s _ => ih s) noFuel
      | cons _ _ => exact bad
    | For tg it b el pos =>
      cases el with
      | cons _ _ => exact bad
      | nil =>
        show PS X _ (zG X Wx (evS run gl (if walkOk tg it then match compPt cc sc 5 tg with
          | some p => .for p (compE cc fuel sc false it) (b.map (compS cc sc n))
          | none => .bad
        else .bad)))
        split
        · rename_i h
          split
          · rename_i p hp
            exact s_for po G.calm ((ex false it).2.2 tg h) (pt_ok G 5 tg p hp) (ss_map fun s _ => ih s) (fun x => by cases it <;> first | rfl | cases h)
          · exact bad
        · exact bad
    | Pass pos => exact s_pass
    | Break pos => exact s_brk
    | Continue pos => exact s_cont
    | _ => exact bad
end
end Cr

namespace Cr
open PySem L2
/-- what is known of a def of the program -/
structure FunC (K : KF) (mg : Str → Option Value) (Γ : Prog) (fn gb im : Str → Bool) (f : Str) : Prop where
  ex : ∃ (st : Stmt) (a : Addr) (fd : FuncData) (N ps : List Str) (mv : Str → Bool) (rm : Bool), mg f = some (.ref a) ∧ FunD K f f (defArgs st) (defBody st) (defScope st) [] [] a fd ∧ FnScope N ps (defScope st) ∧ Binds K fd ps [] ∧
    Γ.fn f = some ⟨ps.length, N.length, (defBody st).map (compS ⟨N, fn, gb, mv, rm, im⟩ (defScope st) fuel)⟩
structure PF (K : KF) (mg : Str → Option Value) (Γ : Prog) (fn gb im : Str → Bool) : Prop where
  funs : ∀ f, fn f = true → FunC K mg Γ fn gb im f
  gls : ∀ x d, gb x = true → Γ.gl x = some d → ∃ u v, mg x = some u ∧ RelV v u ∧ ∀ B, Den K B d v
  bis : ∀ x, fn x = false → isBiName x → mg x = none
theorem startE_ok {K : KF} {c : Cfg} {N : List Str} : ∀ {ws : List W} {vs : List V}, WDenL K c ws vs → ERel K c (startE N.length ws) (L2.start N vs) := fun {ws vs} d => by
  have hl := d.length
  have get : ∀ {ws : List W} {vs : List V}, WDenL K c ws vs → ∀ (i : Nat) (w : W), ws[i]? = some w → ∃ v, vs[i]? = some v ∧ WDen K c w v := by
    intro ws vs d
    induction d with
    | nil => intro i w q; simp at q
    | cons h l ih =>
      intro i w q
      cases i with
      | zero =>
        simp at q
        subst q
        exact ⟨_, rfl, h⟩
      | succ i => simpa using ih i w (by simpa using q)
  refine ⟨by simp [startE, L2.start, hl], fun i w q => ?_⟩
  have q : (ws.map some ++ List.replicate (N.length - ws.length) none)[i]? = some (some w) := q
  by_cases hi : i < ws.length
  · rw [List.getElem?_append_left (by simpa using hi), List.getElem?_map, List.getElem?_eq_getElem hi] at q
    obtain ⟨v, h1, h2⟩ := get d i w (by rw [List.getElem?_eq_getElem hi]; simpa using q)
    refine ⟨v, ?_, h2⟩
    show (vs.map some ++ List.replicate (N.length - vs.length) none)[i]? = some (some v)
    rw [List.getElem?_append_left (by rw [List.length_map, ← hl]; exact hi), List.getElem?_map, h1]
    rfl
  · rw [List.getElem?_append_right (by simp; omega)] at q
    rw [List.getElem?_replicate] at q
    split at q <;> cases q
theorem retR_post {K : KF} {mg : Str → Option Value} {c : Cfg} {H : Hp} {r : SR} {Q : VK} {E : XK} (p : Post K mg c H (retR r) (RW K) Q E) : PostS K mg (fun cls d _ H => E cls d H) { nx := fun _ H' => Q .non H', rt := Q } c H r := by
  cases r with
  | bad => exact p.elim
  | ok f ρ st =>
    cases f with
    | next => exact fun c' H' σ' h1 h2 h3 h4 => p c' H' .non h1 h2 h3 .non
    | ret w => exact fun c' H' v h1 h2 h3 h4 => p c' H' v h1 h2 h3 h4
    | exc x d => exact fun c' H' σ' cls da h1 h2 h3 h4 h5 => p c' H' cls da h1 h2 h3 h5
    | brk => exact p.elim
    | cont => exact p.elim
theorem spR_len {K : KF} {mg : Str → Option Value} {Γ : Prog} {n : Nat} {f : Str} {fd : Fn} (h : Γ.fn f = some fd) {vs : List V} {H : Hp} {Q : VK} {E : XK} (s : spR K mg (run Γ (n + 1)) f vs H Q E) :
    ∃ c ws, vs.length = fd.np ∧ Ok K c H ∧ WDenL K c ws vs ∧ Post K mg c H (retR (evSs (run Γ n) Γ.gl fd.body (startE fd.nn ws) c.st)) (RW K) Q E := by
  obtain ⟨c, ws, o, d, p⟩ := s
  have e : run Γ (n + 1) f ws = if decide (ws.length = fd.np) then fun s => retR (evSs (run Γ n) Γ.gl fd.body (startE fd.nn ws) s) else M.bad := by
    show (match Γ.fn f with | none => M.bad | some fd => if decide (ws.length = fd.np) then fun s => retR (evSs (run Γ n) Γ.gl fd.body (startE fd.nn ws) s) else M.bad) = _
    rw [h]
  rw [e] at p
  by_cases hl : ws.length = fd.np
  · rw [decide_eq_true hl, if_pos rfl] at p
    exact ⟨c, ws, by rw [← d.length]; exact hl, o, d, p⟩
  · rw [decide_eq_false hl] at p
    exact p.elim
/-- one def, its callees at the level below -/
theorem fn_step {P : Program} {w : World} {K : KF} {mg : Str → Option Value} {base : Heap} {Γ : Prog} {fn gb im : Str → Bool} (T : PF K mg Γ fn gb im) {n : Nat} (ih : ∀ X : Cx, X.prog = P → X.w = w → X.K = K → X.mg = mg → X.base = base → ∀ g, fn g = true → Fnk X (run Γ n) n g)
    {f : Str} {st : Stmt} {a : Addr} {fd : FuncData} {N ps : List Str} {mv : Str → Bool} {rm : Bool} (F : FunD K f f (defArgs st) (defBody st) (defScope st) [] [] a fd) (S : FnScope N ps (defScope st))
    (hg : Γ.fn f = some ⟨ps.length, N.length, (defBody st).map (compS ⟨N, fn, gb, mv, rm, im⟩ (defScope st) fuel)⟩) : FnOk P w K mg base (L2.CX P w) (n + 1) a fd ps (spR K mg (run Γ (n + 1)) f) := by
  refine F.ok S (fun vs H Q E s => ?_) fun cdv A outer s H vs Q E hr sp => ?_
  · obtain ⟨_, _, hl, _⟩ := spR_len hg s
    exact hl
  · obtain ⟨c, ws, hl, o, d, p⟩ := spR_len hg sp
    have G : GX (run Γ n) Γ.gl ⟨N, fn, gb, mv, rm, im⟩ n (defScope st) (defScope st) (cxOf (L2.CX P w) P w K mg base N f (defScope st) a cdv A outer s H E) :=
      ⟨rfl, rfl, S.nd, rfl, fun _ h => h, fun _ h => ⟨h, rfl⟩, hr, T.gls, fun g hg => ih _ rfl rfl rfl rfl rfl g hg, T.bis⟩
    refine ⟨_, ss_map (f := compS ⟨N, fn, gb, mv, rm, im⟩ (defScope st) fuel) fun st' _ => sound_s (Wx := fun cls d _ H => E cls d H) (L2.takes_of rfl rfl rfl rfl) (L2.passes_of rfl) G fuel st', ?_⟩
    exact ⟨c, _, o, startE_ok d, retR_post p⟩
/-- THE THEOREM about defs -/
theorem fn_sound {P : Program} {w : World} {K : KF} {mg : Str → Option Value} {base : Heap} {Γ : Prog} {fn gb im : Str → Bool} (T : PF K mg Γ fn gb im) : ∀ (n : Nat) (f : Str), fn f = true →
    ∃ (a : Addr) (fd : FuncData) (ps : List Str), mg f = some (.ref a) ∧ PySem.W.keepIn K (.ref a) = true ∧ Binds K fd ps [] ∧ FnOk P w K mg base (L2.CX P w) n a fd ps (spR K mg (run Γ n) f)
  | 0, f, h => by
    obtain ⟨st, a, fd, N, ps, mv, rm, hm, F, S, B, hg⟩ := (T.funs f h).ex
    have no : ∀ {vs H Q E}, ¬ spR K mg (run Γ 0) f vs H Q E := fun ⟨_, _, _, _, p⟩ => p
    exact ⟨a, fd, ps, hm, F.kp, B, fun _ _ _ _ s => (no s).elim, fun _ _ _ _ _ _ _ _ _ _ _ _ _ s => (no s).elim⟩
  | n + 1, f, h => by
    obtain ⟨st, a, fd, N, ps, mv, rm, hm, F, S, B, hg⟩ := (T.funs f h).ex
    exact ⟨a, fd, ps, hm, F.kp, B, fn_step T (fun X e1 e2 e3 e4 e5 g hg => ⟨by subst e1 e2 e3 e4 e5; exact fn_sound T n g hg⟩) F S hg⟩
theorem fn_all {P : Program} {w : World} {K : KF} {mg : Str → Option Value} {base : Heap} {Γ : Prog} {fn gb im : Str → Bool} (T : PF K mg Γ fn gb im) (n : Nat) (X : Cx) (e1 : X.prog = P) (e2 : X.w = w) (e3 : X.K = K) (e4 : X.mg = mg) (e5 : X.base = base) (g : Str) (hg : fn g = true) : Fnk X (run Γ n) n g := by
  subst e1 e2 e3 e4 e5
  exact ⟨fn_sound T n g hg⟩
structure DS where
  name : Str
  st : Stmt
  N : List Str
  ps : List Str
  mv : List Str
  rm : Bool
def DS.dd (d : DS) : He.DefD := ⟨(d.name, none), d.name, d.name, defArgs d.st, defBody d.st, defScope d.st, [], []⟩
structure DS.Ok (Γ : Prog) (fn gb im : Str → Bool) (d : DS) : Prop where
  sc : FnScope d.N d.ps (defScope d.st)
  bind : ∀ (kV doc pm : Value) (an : Option Addr) (cdv ct : Value) (us : List Value), us.length = d.ps.length → bindArgs (PySem.W.fnOf d.name d.name (defArgs d.st) (defBody d.st) (defScope d.st) .none kV doc pm an cdv ct) ⟨us, []⟩ = pure (d.ps.zip us)
  comp : Γ.fn d.name = some ⟨d.ps.length, d.N.length, (defBody d.st).map (compS ⟨d.N, fn, gb, fun x => d.mv.contains x, d.rm, im⟩ (defScope d.st) fuel)⟩
def biNames : List Str := ["len", "all", "any", "int", "str", "list", "abs", "max", "min", "sum", "bool", "tuple", "range", "enumerate", "zip", "isinstance"]
theorem biNames_mem {x : Str} (h : isBiName x) : x ∈ biNames := by
  rcases h with ⟨f, rfl⟩ | ⟨t, rfl⟩ | rfl | rfl | rfl | rfl
  · cases f <;> decide
  · cases t <;> decide
  all_goals decide
/-- names of the top that stand for texts and numbers -/
inductive GV where
  | str (x : List Nat)
  | int (i : Int)
def GV.d : GV → D
  | .str x => .str x
  | .int i => .int i
def GV.fa (x : Str) : GV → He.Fa
  | .str z => .str x ⟨z.toArray⟩
  | .int i => .int x i
def facts (defs : List DS) (gvs : List (Str × GV)) : List He.Fa := (defs.map fun d => .glo d.name) ++ (biNames.map .free ++ gvs.map fun p => p.2.fa p.1)
def fnIn (defs : List DS) (x : Str) : Bool := defs.any fun d => d.name == x
def gbIn (gvs : List (Str × GV)) (x : Str) : Bool := gvs.any fun p => p.1 == x
def glOf (gvs : List (Str × GV)) (x : Str) : Option D := (gvs.lookup x).map GV.d
def progOf (fn : Str → Option Fn) (gvs : List (Str × GV)) : Prog := ⟨fn, glOf gvs⟩
theorem lookup_mem {α : Type} : ∀ {l : List (Str × α)} {x : Str} {y : α}, l.lookup x = some y → (x, y) ∈ l
  | (k, v) :: r, x, y, h => by
    rw [List.lookup_cons] at h
    cases hb : x == k with
    | true =>
      rw [hb] at h
      have e : v = y := Option.some.inj h
      have e2 : x = k := eq_of_beq hb
      rw [e, e2]
      exact List.mem_cons_self ..
    | false =>
      rw [hb] at h
      exact List.mem_cons_of_mem _ (lookup_mem h)
theorem pf_of {K : KF} {mg : Str → Option Value} {h : Heap} {defs : List DS} {gvs : List (Str × GV)} {fn : Str → Option Fn} {im : Str → Bool} (X : K.In h) (G : h.Ns mainGlobals mg) (c : He.SaysD (facts defs gvs) (defs.map DS.dd) K)
    (ok : ∀ d ∈ defs, d.Ok (progOf fn gvs) (fnIn defs) (gbIn gvs) im) : PF K mg (progOf fn gvs) (fnIn defs) (gbIn gvs) im := by
  refine ⟨fun f hf => ?_, fun x d _ hd => ?_, fun x _ hx => ?_⟩
  · obtain ⟨d, hd, e⟩ := List.any_eq_true.mp hf
    have e : d.name = f := eq_of_beq e
    subst e
    obtain ⟨fd, F⟩ := He.SaysD.defs c (d := d.dd) (List.mem_map.mpr ⟨d, hd, rfl⟩)
    have F : FunD K d.name d.name (defArgs d.st) (defBody d.st) (defScope d.st) [] [] (He.ga K d.name) fd := F
    have O := ok d hd
    exact ⟨d.st, _, fd, d.N, d.ps, _, d.rm, He.glo_ok X G (He.SaysD.facts c (List.mem_append_left _ (List.mem_map.mpr ⟨d, hd, rfl⟩))), F, O.sc, F.bindsN O.bind, O.comp⟩
  · obtain ⟨g, hg, rfl⟩ := Option.map_eq_some_iff.mp (show (gvs.lookup x).map GV.d = some d from hd)
    have m : g.fa x ∈ facts defs gvs := List.mem_append_right _ (List.mem_append_right _ (List.mem_map.mpr ⟨(x, g), lookup_mem hg, rfl⟩))
    have k := He.SaysD.facts c m
    cases g with
    | str z =>
      obtain ⟨t, e⟩ := He.str_ok X G k
      exact ⟨_, .str ⟨z.toArray⟩, e, ⟨t, rfl⟩, fun B => .str z⟩
    | int i =>
      obtain ⟨t, e⟩ := He.int_ok X G k
      exact ⟨_, .int i, e, ⟨t, rfl⟩, fun B => .int i⟩
  · exact He.free_ok X G (He.SaysD.facts c (List.mem_append_right _ (List.mem_append_left _ (List.mem_map.mpr ⟨x, biNames_mem hx, rfl⟩))))
theorem denl_ints {K : KF} {B : Hp} : ∀ ns : List Int, DenL K B (ns.map D.int) (ns.map V.int)
  | [] => .nil
  | n :: ns => .cons (.int n) (denl_ints ns)
/-- what the law's def promises -/
def spTrue (K : KF) (Γ : Prog) (k : Nat) : Sp := fun vs H Q _ => ∃ c ws st, Ok K c H ∧ WDenL K c ws vs ∧ run Γ k "law" ws c.st = .ok (.d (.bool true)) st ∧ ∀ H', Q (.bl true) H'
theorem law_end {l : PySem.W.OpenLaw} {k : Nat} {q : Program} {loose : List Str} {XP : (Str → Option Value) → Heap → Prop} {d : DefRec} {defs : List DS} {gvs : List (Str × GV)} {fn : Str → Option Fn} {im : Str → Bool}
    (hn : l.most = some 63) (hdf : d.params.defaults = []) (hnm : d.name = ("law" : Str)) (hr : Room (k + 1) callerA) (ok : ∀ d ∈ defs, d.Ok (progOf fn gvs) (fnIn defs) (gbIn gvs) im) {dl : DS} (hdl : dl ∈ defs) (hdn : dl.name = ("law" : Str)) (hdp : dl.ps = [("script" : Str)])
    (main : ∀ ns : List Int, ns.length ≤ 63 → (∀ z ∈ ns, Builtin.Int.intBits z ≤ 1048576) → ∃ st, run (progOf fn gvs) (k + 1) "law" [.d (.rol (ns.map .int))] [] = .ok (.d (.bool true)) st) :
    PySem.W.WalkO q loose XP (fun w h => ∃ K : KF, K.In h ∧ He.SaysD (facts defs gvs) (defs.map DS.dd) K) l.row.toRowW d [] (fun f vs => PySem.call f vs) := by
  refine Att.attach_callB hn hdf fun w s₀ s₁ mg mb fa o pm cd doc a vs ns G Y ho hd hcd hmg hobj hints hlen hbits hg => ?_
  obtain ⟨K, KX, c⟩ := Y
  have T := pf_of KX G.T.g c ok
  have hin : fnIn defs "law" = true := List.any_eq_true.mpr ⟨dl, hdl, by rw [hdn]; rfl⟩
  obtain ⟨fd, F⟩ := He.SaysD.defs c (d := dl.dd) (List.mem_map.mpr ⟨dl, hdl, rfl⟩)
  have F : FunD K dl.name dl.name (defArgs dl.st) (defBody dl.st) (defScope dl.st) [] [] (He.ga K dl.name) fd := F
  have hga := He.glo_ok KX G.T.g (He.SaysD.facts c (f := .glo dl.name) (List.mem_append_left _ (List.mem_map.mpr ⟨dl, hdl, rfl⟩)))
  rw [hdn] at hga
  rw [hnm] at hmg
  have efa : He.ga K dl.name = fa := by
    rw [hdn]
    exact (V.ref.inj (congrArg V.ref (Value.ref.inj (Option.some.inj (hga.symm.trans hmg)))))
  rw [efa] at F
  have O := ok dl hdl
  have hb : ∀ (s : Shared) (u : Value), BindsTo s fd ⟨[u], []⟩ [("script", u)] := fun s u => by
    have q := F.bindsA O.bind s [u] (by rw [hdp]; rfl)
    rw [hdp] at q
    exact q
  have hF : ∀ base : Heap, K.In base → base.Ns mainGlobals mg → FnOk l.prog w K mg base (L2.CX l.prog w) (k + 1) fa fd ["script"] (spTrue K (progOf fn gvs) (k + 1)) := fun base _ _ => by
    have FO := fn_step (P := l.prog) (w := w) (base := base) T (n := k) (fn_all T k) F O.sc O.comp
    rw [hdp, hdn] at FO
    refine FO.imp fun vs H Q E ⟨c, ws, st, o, dw, e, q⟩ => ⟨c, ws, o, dw, ?_⟩
    rw [e]
    intro c' H' v _ _ _ dv
    have dv : Den K c'.B (.bool true) v := dv
    cases dv
    exact q H'
  exact law_call KX G.T.g G.T.b G.T.builtins G.T.nolimit hg hobj hints (Nat.le_trans hlen (by decide)) hr hF hb
    (fun H hO hS => by
      obtain ⟨st, e⟩ := main ns hlen hbits
      exact ⟨⟨H, [], []⟩, _, st, ⟨Ex.refl H, rfl, by simp, fun n a cell h => by simp at h, fun a ha => by cases ha⟩, .cons (x := .d (.rol (ns.map D.int))) (show Den K H (.rol (ns.map D.int)) (.ref a) from .rol hS (denl_ints ns)) .nil, e, fun _ => rfl⟩)
    fun H e s' h => by
      obtain ⟨_, _, _, _, _, _, _, _, _, _, _, _, z⟩ := h
      exact z
end Cr

namespace Cr
open PySem
theorem run_fn {Γ : Prog} {n : Nat} {f : Str} {fd : Fn} {ws : List W} (h : Γ.fn f = some fd) (hl : ws.length = fd.np) : run Γ (n + 1) f ws = fun s => retR (evSs (run Γ n) Γ.gl fd.body (startE fd.nn ws) s) := by
  show (match Γ.fn f with | none => M.bad | some fd => if decide (ws.length = fd.np) then fun s => retR (evSs (run Γ n) Γ.gl fd.body (startE fd.nn ws) s) else M.bad) = _
  rw [h]
  simp [hl]
section
variable {α β γ : Type} {run : Str → List W → M W} {gl : Str → Option D}
@[simp] theorem pure_bindM (a : α) (k : α → M β) : M.bind (M.pure a) k = k a := (rfl)
@[simp] theorem bad_bindM (k : α → M β) : M.bind M.bad k = M.bad := (rfl)
@[simp] theorem bind_assocM (m : M α) (f : α → M β) (g : β → M γ) : M.bind (M.bind m f) g = M.bind m fun a => M.bind (f a) g := by
  funext s
  show ((m s).andThen f).andThen g = (m s).andThen fun a s => (f a s).andThen g
  cases m s <;> rfl
@[simp] theorem ite_bindM {c : Prop} [Decidable c] (a b : M α) (k : α → M β) : M.bind (if c then a else b) k = if c then M.bind a k else M.bind b k := by
  split <;> rfl
@[simp] theorem lift_some (a : α) : lift (some a) = M.pure a := (rfl)
@[simp] theorem lift_none : (lift none : M α) = M.bad := (rfl)
@[simp] theorem lift_ite {c : Prop} [Decidable c] (a b : Option α) : lift (if c then a else b) = if c then lift a else lift b := by
  split <;> rfl
@[simp] theorem guard_true : guard true = M.pure () := (rfl)
@[simp] theorem guard_false : guard false = M.bad := (rfl)
@[simp] theorem peek_d (x : D) : peek (.d x) = M.pure x := (rfl)
@[simp] theorem freeze_d (x : D) : freeze (.d x) = M.pure x := (rfl)
@[simp] theorem alloc_f (x : D) : alloc false x = M.pure (.d x) := by
  funext s; cases x <;> rfl
@[simp] theorem freezes_nil : freezes [] = M.pure [] := (rfl)
@[simp] theorem freezes_cons (w : W) (ws : List W) : freezes (w :: ws) = M.bind (freeze w) fun x => M.bind (freezes ws) fun xs => M.pure (x :: xs) := (rfl)
@[simp] theorem peeks_nil : peeks [] = M.pure [] := (rfl)
@[simp] theorem peeks_cons (w : W) (ws : List W) : peeks (w :: ws) = M.bind (peek w) fun x => M.bind (peeks ws) fun xs => M.pure (x :: xs) := (rfl)
@[simp] theorem getVar_0 (w : W) (ρ : Env) : getVar 0 (some w :: ρ) = M.pure w := (rfl)
@[simp] theorem getVar_s (i : Nat) (o : Option W) (ρ : Env) : getVar (i + 1) (o :: ρ) = getVar i ρ := (rfl)
@[simp] theorem setVar_0 (w : W) (o : Option W) (ρ : Env) : setVar 0 w (o :: ρ) = some w :: ρ := (rfl)
@[simp] theorem setVar_s (i : Nat) (w : W) (o : Option W) (ρ : Env) : setVar (i + 1) w (o :: ρ) = o :: setVar i w ρ := (rfl)
@[simp] theorem smL_nil (ρ : Env) : smL [] ρ = M.pure [] := (rfl)
@[simp] theorem smL_cons (e : Sm) (es : List Sm) (ρ : Env) : smL (e :: es) ρ = M.bind (e.v ρ) fun w => M.bind (smL es ρ) fun ws => M.pure (w :: ws) := (rfl)
@[simp] theorem sems_nil : sems run gl [] = [] := by simp only [sems]
@[simp] theorem sems_cons (e : E) (es : List E) : sems run gl (e :: es) = sem run gl e :: sems run gl es := by simp only [sems]
@[simp] theorem ofV_v (v : Env → M W) : (ofV v).v = v := (rfl)
@[simp] theorem ofV_t (v : Env → M W) : (ofV v).t = vT v := (rfl)
@[simp] theorem ofV_i (v : Env → M W) : (ofV v).i = vI v := (rfl)
@[simp] theorem vT_eq (v : Env → M W) (ρ : Env) : vT v ρ = M.bind (v ρ) fun w => M.bind (peek w) fun x => lift (truth x) := (rfl)
@[simp] theorem vI_eq (v : Env → M W) (ρ : Env) : vI v ρ = M.bind (v ρ) fun w => M.bind (freeze w) fun x => lift (walkD x) := (rfl)
@[simp] theorem evE_eq (e : E) (ρ : Env) : evE run gl e ρ = (sem run gl e).v ρ := (rfl)
@[simp] theorem evT_eq (e : E) (ρ : Env) : evT run gl e ρ = (sem run gl e).t ρ := (rfl)
@[simp] theorem evI_eq (e : E) (ρ : Env) : evI run gl e ρ = (sem run gl e).i ρ := (rfl)
@[simp] theorem partW_int (i : Int) : partW (.d (.int i)) = M.pure (some i) := (rfl)
/-- statement by statement -/
def andS (r : SR) (k : Env → Store → SR) : SR := match r with
  | .ok .next ρ s => k ρ s
  | r => r
@[simp] theorem andS_next (ρ : Env) (s : Store) (k : Env → Store → SR) : andS (.ok .next ρ s) k = k ρ s := (rfl)
@[simp] theorem andS_ret (w : W) (ρ : Env) (s : Store) (k : Env → Store → SR) : andS (.ok (.ret w) ρ s) k = .ok (.ret w) ρ s := (rfl)
@[simp] theorem andS_brk (ρ : Env) (s : Store) (k : Env → Store → SR) : andS (.ok .brk ρ s) k = .ok .brk ρ s := (rfl)
@[simp] theorem andS_cont (ρ : Env) (s : Store) (k : Env → Store → SR) : andS (.ok .cont ρ s) k = .ok .cont ρ s := (rfl)
@[simp] theorem andS_exc (c : Str) (d : Option (Str × D)) (ρ : Env) (s : Store) (k : Env → Store → SR) : andS (.ok (.exc c d) ρ s) k = .ok (.exc c d) ρ s := (rfl)
@[simp] theorem andS_bad (k : Env → Store → SR) : andS .bad k = .bad := (rfl)
@[simp] theorem andS_ite {c : Prop} [Decidable c] (a b : SR) (k : Env → Store → SR) : andS (if c then a else b) k = if c then andS a k else andS b k := by
  split <;> rfl
@[simp] theorem evSs_nil (ρ : Env) (s : Store) : evSs run gl [] ρ s = .ok .next ρ s := by simp only [evSs]
@[simp] theorem evSs_cons (st : S) (ss : List S) (ρ : Env) (s : Store) : evSs run gl (st :: ss) ρ s = andS (evS run gl st ρ s) (evSs run gl ss) := by
  rw [evSs]
  rfl
/-- an expression ahead of a statement -/
def exM (m : M α) (ρ : Env) (k : α → Store → SR) (s : Store) : SR := exS (m s) ρ k
@[simp] theorem exM_pure (a : α) (ρ : Env) (k : α → Store → SR) (s : Store) : exM (M.pure a) ρ k s = k a s := (rfl)
@[simp] theorem exM_bad (ρ : Env) (k : α → Store → SR) (s : Store) : exM M.bad ρ k s = .bad := (rfl)
@[simp] theorem exM_ite {c : Prop} [Decidable c] (a b : M α) (ρ : Env) (k : α → Store → SR) (s : Store) : exM (if c then a else b) ρ k s = if c then exM a ρ k s else exM b ρ k s := by
  split <;> rfl
theorem exM_ok {m : M α} {ρ : Env} {k : α → Store → SR} {s s' : Store} {a : α} (h : m s = .ok a s') : exM m ρ k s = k a s' := by
  unfold exM
  rw [h]
  rfl
@[simp] theorem evS_asg (p : Pt) (e : E) (ρ : Env) (s : Store) : evS run gl (.asg p e) ρ s = exM ((sem run gl e).v ρ) ρ (fun w s => asgS (bindPt p w ρ) s) s := by simp only [evS, exM, evE]
@[simp] theorem evS_expr (e : E) (ρ : Env) (s : Store) : evS run gl (.expr e) ρ s = exM ((sem run gl e).v ρ) ρ (fun w s => .ok .next ρ s) s := by simp only [evS, exM, evE]
@[simp] theorem evS_ret (e : E) (ρ : Env) (s : Store) : evS run gl (.ret e) ρ s = exM ((sem run gl e).v ρ) ρ (fun w s => .ok (.ret w) ρ s) s := by simp only [evS, exM, evE]
@[simp] theorem evS_ite (c : E) (a b : List S) (ρ : Env) (s : Store) : evS run gl (.ite c a b) ρ s = exM ((sem run gl c).t ρ) ρ (fun t s => if t then evSs run gl a ρ s else evSs run gl b ρ s) s := by simp only [evS, exM, evT]
@[simp] theorem evS_for (p : Pt) (it : E) (b : List S) (ρ : Env) (s : Store) : evS run gl (.for p it b) ρ s = exM ((sem run gl it).i ρ) ρ (fun xs s => forLoop (forBody p (evSs run gl b)) xs ρ s) s := by simp only [evS, exM, evI]
@[simp] theorem evS_pass (ρ : Env) (s : Store) : evS run gl .pass ρ s = .ok .next ρ s := by simp only [evS]
@[simp] theorem evS_brk (ρ : Env) (s : Store) : evS run gl .brk ρ s = .ok .brk ρ s := by simp only [evS]
@[simp] theorem evS_cont (ρ : Env) (s : Store) : evS run gl .cont ρ s = .ok .cont ρ s := by simp only [evS]
@[simp] theorem asgS_some (ρ : Env) (s : Store) : asgS (some ρ) s = .ok .next ρ s := (rfl)
@[simp] theorem bindPt_name (i : Nat) (w : W) (ρ : Env) : bindPt (.name i) w ρ = some (setVar i w ρ) := by simp only [bindPt]
@[simp] theorem bindPt_tup (ps : List Pt) (xs : List D) (ρ : Env) : bindPt (.tup ps) (.d (.tup xs)) ρ = bindPts ps xs ρ := by simp only [bindPt]
@[simp] theorem bindPts_nil (ρ : Env) : bindPts [] [] ρ = some ρ := by simp only [bindPts]
@[simp] theorem bindPts_cons (p : Pt) (ps : List Pt) (x : D) (xs : List D) (ρ : Env) : bindPts (p :: ps) (x :: xs) ρ = (bindPt p (.d x) ρ).bind (bindPts ps xs) := by simp only [bindPts]
@[simp] theorem retR_ret (w : W) (ρ : Env) (s : Store) : retR (.ok (.ret w) ρ s) = .ok w s := (rfl)
@[simp] theorem retR_next (ρ : Env) (s : Store) : retR (.ok .next ρ s) = .ok (.d .non) s := (rfl)
@[simp] theorem retR_ite {c : Prop} [Decidable c] (a b : SR) : retR (if c then a else b) = if c then retR a else retR b := by
  split <;> rfl
@[simp] theorem startE_eq (n : Nat) (ws : List W) : startE n ws = ws.map some ++ List.replicate (n - ws.length) none := (rfl)
@[simp] theorem pureM_apply (a : α) (s : Store) : M.pure a s = .ok a s := (rfl)
@[simp] theorem sem_var (i : Nat) : sem run gl (.var i) = ofV (fun ρ => getVar i ρ) := by simp only [sem]
@[simp] theorem sem_con (d : D) : sem run gl (.con d) = ofV (fun ρ => M.pure (.d d)) := by simp only [sem]
@[simp] theorem sem_glob (x : Str) : sem run gl (.glob x) = ofV (fun ρ => M.bind (lift (gl x)) fun d => M.pure (.d d)) := by simp only [sem]
@[simp] theorem sem_tup (es : List E) : sem run gl (.tup es) = ofV fun ρ => M.bind (smL (sems run gl es) ρ) fun ws => M.bind (freezes ws) fun xs => M.bind (guard (fits xs.length)) fun _ => M.pure (.d (.tup xs)) := by simp only [sem]
@[simp] theorem sem_list (m : Bool) (es : List E) : sem run gl (.list m es) = ofV fun ρ => M.bind (smL (sems run gl es) ρ) fun ws => M.bind (freezes ws) fun xs => M.bind (guard (fits xs.length)) fun _ => alloc m (.list xs) := by simp only [sem]
@[simp] theorem sem_bin (m : Bool) (op : Operator) (a b : E) : sem run gl (.bin m op a b) = ofV fun ρ => M.bind ((sem run gl a).v ρ) fun x => M.bind ((sem run gl b).v ρ) fun y => M.bind (peek x) fun x => M.bind (peek y) fun y => M.bind (lift (binD op x y)) fun z => alloc m z := by simp only [sem]
@[simp] theorem sem_un (op : UnaryOp) (a : E) : sem run gl (.un op a) = ofV fun ρ => M.bind ((sem run gl a).v ρ) fun x => M.bind (peek x) fun x => M.bind (lift (unD op x)) fun z => M.pure (.d z) := by simp only [sem]
@[simp] theorem sem_cmp (op : CmpOp) (a b : E) : sem run gl (.cmp op a b) = ofV fun ρ => M.bind ((sem run gl a).v ρ) fun x => M.bind ((sem run gl b).v ρ) fun y => M.bind (peek x) fun x => M.bind (peek y) fun y => M.bind (lift (cmpD op x y)) fun z => M.pure (.d (.bool z)) := by simp only [sem]
@[simp] theorem sem_cmp2 (op op2 : CmpOp) (a b c : E) : sem run gl (.cmp2 op op2 a b c) = ofV fun ρ => M.bind ((sem run gl a).v ρ) fun x => M.bind ((sem run gl b).v ρ) fun y => M.bind (peek x) fun x => M.bind (peek y) fun y' => M.bind (lift (cmpD op x y')) fun z =>
      if z then M.bind ((sem run gl c).v ρ) fun w => M.bind (peek y) fun y => M.bind (peek w) fun w => M.bind (lift (cmpD op2 y w)) fun z => M.pure (.d (.bool z)) else M.pure (.d (.bool false)) := by simp only [sem]
@[simp] theorem sem_and_t (a b : E) (ρ : Env) : (sem run gl (.and a b)).t ρ = M.bind ((sem run gl a).t ρ) fun t => if t then (sem run gl b).t ρ else M.pure false := by simp only [sem]
@[simp] theorem sem_or_t (a b : E) (ρ : Env) : (sem run gl (.or a b)).t ρ = M.bind ((sem run gl a).t ρ) fun t => if t then M.pure true else (sem run gl b).t ρ := by simp only [sem]
@[simp] theorem sem_not_t (a : E) (ρ : Env) : (sem run gl (.not a)).t ρ = M.bind ((sem run gl a).t ρ) fun t => M.pure (!t) := by simp only [sem]
@[simp] theorem sem_and_v (a b : E) (ρ : Env) : (sem run gl (.and a b)).v ρ = M.bind ((sem run gl a).v ρ) fun x => M.bind (peek x) fun d => M.bind (lift (truth d)) fun t => if t then (sem run gl b).v ρ else M.pure x := by simp only [sem]
@[simp] theorem sem_or_v (a b : E) (ρ : Env) : (sem run gl (.or a b)).v ρ = M.bind ((sem run gl a).v ρ) fun x => M.bind (peek x) fun d => M.bind (lift (truth d)) fun t => if t then M.pure x else (sem run gl b).v ρ := by simp only [sem]
@[simp] theorem sem_not_v (a : E) (ρ : Env) : (sem run gl (.not a)).v ρ = M.bind ((sem run gl a).v ρ) fun x => M.bind (peek x) fun d => M.bind (lift (truth d)) fun t => M.pure (.d (.bool (!t))) := by simp only [sem]
@[simp] theorem sem_ite_v (c a b : E) (ρ : Env) : (sem run gl (.ite c a b)).v ρ = M.bind ((sem run gl c).t ρ) fun t => if t then (sem run gl a).v ρ else (sem run gl b).v ρ := by simp only [sem, ofV]
@[simp] theorem sem_ite_t (c a b : E) (ρ : Env) : (sem run gl (.ite c a b)).t ρ = M.bind ((sem run gl c).t ρ) fun t => if t then (sem run gl a).t ρ else (sem run gl b).t ρ := by simp only [sem, ofV]
@[simp] theorem sem_ite_i (c a b : E) (ρ : Env) : (sem run gl (.ite c a b)).i ρ = vI (fun ρ => M.bind ((sem run gl c).t ρ) fun t => if t then (sem run gl a).v ρ else (sem run gl b).v ρ) ρ := by simp only [sem, ofV]
@[simp] theorem sem_idx (a i : E) : sem run gl (.idx a i) = ofV fun ρ => M.bind ((sem run gl a).v ρ) fun x => M.bind ((sem run gl i).v ρ) fun y => M.bind (peek x) fun x => M.bind (peek y) fun y => M.bind (lift (idxD x y)) fun z => M.pure (.d z) := by simp only [sem]
@[simp] theorem sem_slice (m bl bh : Bool) (a lo hi : E) : sem run gl (.slice m bl bh a lo hi) = ofV fun ρ => M.bind ((sem run gl a).v ρ) fun x => M.bind (if bl then M.bind ((sem run gl lo).v ρ) partW else M.pure none) fun l => M.bind (if bh then M.bind ((sem run gl hi).v ρ) partW else M.pure none) fun h =>
      M.bind (peek x) fun x => M.bind (lift (sliceD x l h)) fun z => alloc m z := by simp only [sem]
@[simp] theorem sem_rev (a : E) : sem run gl (.rev a) = ofV fun ρ => M.bind ((sem run gl a).v ρ) fun x => M.bind (peek x) fun x => M.bind (lift (revD x)) fun z => alloc false z := by simp only [sem]
@[simp] theorem sem_call (m : Bool) (f : Str) (es : List E) : sem run gl (.call m f es) = ofV fun ρ => M.bind (smL (sems run gl es) ρ) fun ws => if m then run f ws else M.bind (pcall run f ws) fun z => M.pure (.d z) := by simp only [sem]
@[simp] theorem sem_bi (m : Bool) (f : Bi) (es : List E) : sem run gl (.bi m f es) = ofV fun ρ => M.bind (smL (sems run gl es) ρ) fun ws => M.bind (peeks ws) fun xs => M.bind (lift (biD f xs)) fun z => alloc m z := by simp only [sem]
@[simp] theorem sem_mt (m : Bool) (f : Mt) (o : E) (es : List E) : sem run gl (.mt m f o es) = ofV fun ρ => M.bind ((sem run gl o).v ρ) fun x => M.bind (peek x) fun x0 => M.bind (guard (isStr x0)) fun _ => M.bind (smL (sems run gl es) ρ) fun ws => M.bind (peek x) fun x => M.bind (peeks ws) fun xs => M.bind (lift (mtD f x xs)) fun z => alloc m z := by simp only [sem]
@[simp] theorem sem_app (o e : E) : sem run gl (.app o e) = ofV fun ρ => M.bind ((sem run gl o).v ρ) fun x => M.bind (guardL x) fun _ => M.bind ((sem run gl e).v ρ) fun w => M.bind (freeze w) fun y => append x y := by simp only [sem]
@[simp] theorem sem_range_i (es : List E) (ρ : Env) : (sem run gl (.range es)).i ρ = M.bind (smL (sems run gl es) ρ) fun ws => M.bind (peeks ws) fun xs => lift (rangeD xs) := by simp only [sem]
@[simp] theorem sem_lc (m : Bool) (elt : E) (tg : Pt) (it : E) (cs : List E) (own : List Nat) : sem run gl (.lc m elt tg it cs own) = ofV fun ρ => M.bind ((sem run gl it).i ρ) fun xs => M.bind (lcLoop (lcBody tg (sems run gl cs) (sem run gl elt) (wipeE ρ own)) xs []) fun ys => alloc m (.list ys) := by simp only [sem]
@[simp] theorem sem_fs (es : List E) : sem run gl (.fs es) = ofV fun ρ => M.bind (smF (sems run gl es) [] ρ) fun s => M.pure (.d (.str s)) := by simp only [sem]
@[simp] theorem sem_fmt (a : E) : sem run gl (.fmt a) = ofV fun ρ => M.bind ((sem run gl a).v ρ) fun x => M.bind (peek x) fun x => M.bind (lift (fmtD x)) fun s => M.pure (.d (.str s)) := by simp only [sem]
@[simp] theorem sem_isI (a : E) (t : Ty) : sem run gl (.isI a t) = ofV fun ρ => M.bind ((sem run gl a).v ρ) fun x => M.bind (peek x) fun x => M.pure (.d (.bool (isID x t))) := by simp only [sem]
@[simp] theorem isStr_str (x : List Nat) : isStr (.str x) = true := (rfl)
@[simp] theorem wipeE_nil (ρ : Env) : wipeE ρ [] = ρ := (rfl)
@[simp] theorem truth_bool (b : Bool) : truth (.bool b) = some b := (rfl)
@[simp] theorem truth_non : truth .non = some false := (rfl)
@[simp] theorem truth_int (i : Int) : truth (.int i) = some (i != 0) := (rfl)
@[simp] theorem truth_list (xs : List D) : truth (.list xs) = some (!xs.isEmpty) := (rfl)
@[simp] theorem truth_rol (xs : List D) : truth (.rol xs) = some (!xs.isEmpty) := (rfl)
theorem truth_str {x : List Nat} (h : fits x.length = true) : truth (.str x) = some (!x.isEmpty) := by simp [truth, h]
theorem fits_of {n : Nat} (h : n ≤ 16777216) : fits n = true := decide_eq_true h
@[simp] theorem eq_str (a b : List Nat) : cmpD .Eq (.str a) (.str b) = some (decide (a = b)) := (rfl)
@[simp] theorem eq_int (a b : Int) : cmpD .Eq (.int a) (.int b) = some (decide (a = b)) := (rfl)
@[simp] theorem ne_str (a b : List Nat) : cmpD .NotEq (.str a) (.str b) = some (!decide (a = b)) := (rfl)
@[simp] theorem ne_int (a b : Int) : cmpD .NotEq (.int a) (.int b) = some (!decide (a = b)) := (rfl)
@[simp] theorem lt_int (a b : Int) : cmpD .Lt (.int a) (.int b) = some (decide (a < b)) := (rfl)
@[simp] theorem le_int (a b : Int) : cmpD .LtE (.int a) (.int b) = some (decide (a ≤ b)) := (rfl)
@[simp] theorem gt_int (a b : Int) : cmpD .Gt (.int a) (.int b) = some (decide (b < a)) := (rfl)
@[simp] theorem ge_int (a b : Int) : cmpD .GtE (.int a) (.int b) = some (decide (b ≤ a)) := (rfl)
@[simp] theorem is_non (x : D) : cmpD .Is x .non = some (isNon x) := (rfl)
@[simp] theorem isnot_non (x : D) : cmpD .IsNot x .non = some (!isNon x) := (rfl)
@[simp] theorem in_sign (c : Nat) (z : List Nat) : cmpD .In (.str [c]) (.str z) = some (decide (c ∈ z)) := (rfl)
@[simp] theorem notin_sign (c : Nat) (z : List Nat) : cmpD .NotIn (.str [c]) (.str z) = some (!decide (c ∈ z)) := (rfl)
@[simp] theorem add_int (a b : Int) : binD .Add (.int a) (.int b) = some (.int (a + b)) := (rfl)
@[simp] theorem sub_int (a b : Int) : binD .Sub (.int a) (.int b) = some (.int (a - b)) := (rfl)
theorem mul_int' {a b : Int} (h : mulOk a b = true) : binD .Mult (.int a) (.int b) = some (.int (a * b)) := by simp [binD, intBin, h]
theorem mod_int' {a b : Int} (h : 0 < b) : binD .Mod (.int a) (.int b) = some (.int (a % b)) := by simp [binD, intBin, h]
theorem div_int' {a b : Int} (h : 0 < b) (h2 : b < 1073741824) : binD .FloorDiv (.int a) (.int b) = some (.int (a / b)) := by simp [binD, intBin, h, h2]
theorem add_str {a b : List Nat} (h : a.length + b.length ≤ 16777216) : binD .Add (.str a) (.str b) = some (.str (a ++ b)) := by simp [binD, fits, h]
theorem add_list {a b : List D} (h : a.length + b.length ≤ 16777216) : binD .Add (.list a) (.list b) = some (.list (a ++ b)) := by simp [binD, fits, h]
@[simp] theorem len_list (xs : List D) : biD .len [.list xs] = some (.int xs.length) := (rfl)
@[simp] theorem len_rol (xs : List D) : biD .len [.rol xs] = some (.int xs.length) := (rfl)
@[simp] theorem len_tup (xs : List D) : biD .len [.tup xs] = some (.int xs.length) := (rfl)
theorem len_str {x : List Nat} (h : fits x.length = true) : biD .len [.str x] = some (.int x.length) := by simp [biD, lenD, h]
@[simp] theorem walk_list (xs : List D) : walkD (.list xs) = some xs := (rfl)
@[simp] theorem walk_rol (xs : List D) : walkD (.rol xs) = some xs := (rfl)
@[simp] theorem walk_tupE (xs : List D) : walkD (.tup xs) = some xs := (rfl)
theorem walk_str {x : List Nat} (h : fits x.length = true) : walkD (.str x) = some (x.map fun c => .str [c]) := by simp [walkD, h]
theorem lcLoop_pure {body : D → M (Option D)} (g : D → Option D) : ∀ {xs acc : List D}, (∀ x ∈ xs, body x = M.pure (g x)) → acc.length + xs.length ≤ 16777216 → lcLoop body xs acc = M.pure (acc.reverse ++ xs.filterMap g)
  | [], acc, _, _ => by funext s; simp [lcLoop]
  | x :: xs, acc, h, hl => by
    funext s
    have e := h x (by simp)
    have ih : ∀ acc : List D, acc.length + xs.length ≤ 16777216 → lcLoop body xs acc = M.pure (acc.reverse ++ xs.filterMap g) := fun acc hl => lcLoop_pure g (fun y hy => h y (by simp [hy])) hl
    have hl : acc.length + (xs.length + 1) ≤ 16777216 := hl
    show (match body x s with | .ok none s => lcLoop body xs acc s | .ok (some y) s => if decide (acc.length < 16777216) then lcLoop body xs (y :: acc) s else .bad | _ => .bad) = _
    rw [e]
    cases hg : g x with
    | none =>
      show lcLoop body xs acc s = _
      rw [ih acc (by omega), List.filterMap_cons, hg]
    | some y =>
      show (if decide (acc.length < 16777216) then lcLoop body xs (y :: acc) s else .bad) = _
      rw [if_pos (by simp; omega), ih (y :: acc) (by simp; omega), List.filterMap_cons, hg]
      simp
/-- a comprehension of pure terms -/
theorem lc_map {body : D → M (Option D)} {xs : List D} (g : D → D) (h : ∀ x ∈ xs, body x = M.pure (some (g x))) (hl : xs.length ≤ 16777216) : lcLoop body xs [] = M.pure (xs.map g) := by
  rw [lcLoop_pure (fun x => some (g x)) h (by simpa using hl)]
  simp

@[simp] theorem ite_pureM {c : Prop} [Decidable c] (a b : α) : (if c then M.pure a else M.pure b) = M.pure (if c then a else b) := by
  split <;> rfl
@[simp] theorem ite_W {c : Prop} [Decidable c] (a b : D) : (if c then W.d a else W.d b) = W.d (if c then a else b) := by
  split <;> rfl
@[simp] theorem ite_str {c : Prop} [Decidable c] (a b : List Nat) : (if c then D.str a else D.str b) = D.str (if c then a else b) := by
  split <;> rfl
@[simp] theorem ite_int {c : Prop} [Decidable c] (a b : Int) : (if c then D.int a else D.int b) = D.int (if c then a else b) := by
  split <;> rfl
@[simp] theorem ite_bool {c : Prop} [Decidable c] (a b : Bool) : (if c then D.bool a else D.bool b) = D.bool (if c then a else b) := by
  split <;> rfl
theorem lc_str {body : D → M (Option D)} {t : List Nat} (g : Nat → Option D) (h : ∀ c ∈ t, body (.str [c]) = M.pure (g c)) (hl : t.length ≤ 16777216) : lcLoop body (t.map fun c => .str [c]) [] = M.pure (t.filterMap g) := by
  rw [lcLoop_pure (fun x => match x with | .str [c] => g c | _ => none) (fun x hx => ?_) (by simpa using hl)]
  · simp [List.filterMap_map]
    rfl
  · obtain ⟨c, hc, rfl⟩ := List.mem_map.mp hx
    exact h c hc
theorem lcBody_eq (tg : Pt) (cs : List Sm) (elt : Sm) (ρ : Env) (x : D) : lcBody tg cs elt ρ x = M.bind (lift (bindPt tg (.d x) ρ)) fun ρ1 => M.bind (smT cs ρ1) fun t => if t then M.bind (elt.v ρ1) fun w => M.bind (freeze w) fun y => M.pure (some y) else M.pure none := rfl
@[simp] theorem smT_nil (ρ : Env) : smT [] ρ = M.pure true := (rfl)
@[simp] theorem smT_cons (e : Sm) (es : List Sm) (ρ : Env) : smT (e :: es) ρ = M.bind (e.t ρ) fun t => if t then smT es ρ else M.pure false := (rfl)
@[simp] theorem wipeE_cons (ρ : Env) (v : Nat) (vs : List Nat) : wipeE ρ (v :: vs) = (wipeE ρ vs).set v none := (rfl)
@[simp] theorem cut_take1 {α : Type} (xs : List α) : cut xs none (some 1) = xs.take 1 := by
  unfold cut
  rw [show (some (1 : Int)) = some ((1 : Nat) : Int) from rfl, HT.sIx_nat, HT.sIx_none]
  simp [List.take_eq_take_iff]
@[simp] theorem cut_drop1 {α : Type} (xs : List α) : cut xs (some 1) none = xs.drop 1 := by
  unfold cut
  rw [show (some (1 : Int)) = some ((1 : Nat) : Int) from rfl, HT.sIx_nat, HT.sIx_none]
  by_cases h : 1 ≤ xs.length
  · rw [Nat.min_eq_left h, List.take_of_length_le (by simp)]
  · have : xs = [] := List.length_eq_zero_iff.mp (by omega)
    subst this
    rfl
theorem cut_take {α : Type} (xs : List α) (k : Nat) : cut xs none (some (k : Int)) = xs.take k := by
  unfold cut
  rw [HT.sIx_nat, HT.sIx_none]
  simp [List.take_eq_take_iff]
theorem cut_drop {α : Type} (xs : List α) (k : Nat) : cut xs (some (k : Int)) none = xs.drop k := by
  unfold cut
  rw [HT.sIx_nat, HT.sIx_none]
  by_cases h : k ≤ xs.length
  · rw [Nat.min_eq_left h, List.take_of_length_le (by simp)]
  · rw [Nat.min_eq_right (by omega), List.drop_length, List.drop_of_length_le (by omega)]
    simp
theorem slice_strE {x : List Nat} {lo hi : Option Int} (h : fits x.length = true) : sliceD (.str x) lo hi = some (.str (cut x lo hi)) := by simp [sliceD, h]
@[simp] theorem slice_listE (x : List D) (lo hi : Option Int) : sliceD (.list x) lo hi = some (.list (cut x lo hi)) := (rfl)
theorem boolsL_map {α : Type} (f : α → Bool) : ∀ xs : List α, boolsL (xs.map fun x => .bool (f x)) = some (xs.map f)
  | [] => rfl
  | x :: xs => by simp [boolsL, boolsL_map f xs]
theorem all_bools {α : Type} (f : α → Bool) (xs : List α) : biD .all [.list (xs.map fun x => .bool (f x))] = some (.bool (xs.all f)) := by
  simp [biD, boolsL_map, List.all_map]
theorem idx_strE {x : List Nat} (h : fits x.length = true) {j : Nat} {c : Nat} (e : x[j]? = some c) : idxD (.str x) (.int (j : Int)) = some (.str [c]) := by
  show (if fits x.length then (L2.atI x (j : Int)).map fun c => D.str [c] else none) = _
  rw [if_pos h, L2.atI_nat e]
  rfl
theorem idx_str0 {x : List Nat} (h : fits x.length = true) {c : Nat} {r : List Nat} (e : x = c :: r) : idxD (.str x) (.int 0) = some (.str [c]) := idx_strE (j := 0) h (by rw [e]; rfl)
theorem idx_listE {x : List D} {j : Nat} {c : D} (e : x[j]? = some c) : idxD (.list x) (.int (j : Int)) = some c := L2.atI_nat e
theorem idx_rolE {x : List D} {j : Nat} {c : D} (e : x[j]? = some c) : idxD (.rol x) (.int (j : Int)) = some c := L2.atI_nat e

@[simp] theorem guard_fits {n : Nat} (h : n ≤ 16777216) : guard (fits n) = M.pure () := by
  rw [fits_of h]
  rfl
/-- data that == serves -/
def D.good : Nat → D → Bool
  | _, .non => true | _, .bool _ => true | _, .int _ => true
  | _, .str x => x.all (· < 0x110000)
  | 0, _ => false
  | n + 1, .list xs => xs.all (D.good n)
  | n + 1, .tup xs => xs.all (D.good n)
  | n + 1, .rol xs => xs.all (D.good n)
mutual
theorem eqv_refl0 : ∀ d : PyData, d.canLay0 = true → PyData.eqv d d = true
  | .none, _ => by simp [PyData.eqv]
  | .bool b, _ => by simp [PyData.eqv]
  | .int b, _ => by simp [PyData.eqv]
  | .str b, _ => by simp [PyData.eqv]
  | .list xs, h => by simpa [PyData.eqv] using eqvAll_refl0 xs (by simpa [PyData.canLay0] using h)
  | .tuple xs, h => by simpa [PyData.eqv] using eqvAll_refl0 xs (by simpa [PyData.canLay0] using h)
  | .dict _, h => by simp [PyData.canLay0] at h
theorem eqvAll_refl0 : ∀ xs : List PyData, PyData.canLayAll0 xs = true → PyData.eqvAll xs xs = true
  | [], _ => by simp [PyData.eqvAll]
  | x :: xs, h => by
    have h : PyData.canLay0 x = true ∧ PyData.canLayAll0 xs = true := by simpa [PyData.canLayAll0] using h
    simp [PyData.eqvAll, eqv_refl0 x h.1, eqvAll_refl0 xs h.2]
end
theorem good_all {n : Nat} (ih : ∀ x : D, x.good n = true → ∃ d, x.toPy = some d ∧ d.canLay0 = true ∧ d.depth ≤ n) : ∀ xs : List D, xs.all (D.good n) = true → ∃ ds, D.toPys xs = some ds ∧ PyData.canLayAll0 ds = true ∧ PyData.depthAll ds ≤ n ∧ ds.length = xs.length
  | [], _ => ⟨[], rfl, by simp [PyData.canLayAll0], by simp [PyData.depthAll], rfl⟩
  | x :: xs, h => by
    rw [List.all_cons, Bool.and_eq_true] at h
    obtain ⟨d, h1, h2, h3⟩ := ih x h.1
    obtain ⟨ds, q1, q2, q3, q4⟩ := good_all ih xs h.2
    refine ⟨d :: ds, ?_, by simp [PyData.canLayAll0, h2, q2], by simp [PyData.depthAll]; omega, by simp [q4]⟩
    show ((D.toPy x).bind fun a => (D.toPys xs).map fun r => a :: r) = _
    rw [h1, q1]
    rfl
theorem good_py : ∀ (n : Nat) (x : D), x.good n = true → ∃ d, x.toPy = some d ∧ d.canLay0 = true ∧ d.depth ≤ n
  | n, .non, _ => ⟨.none, rfl, by simp [PyData.canLay0], by simp [PyData.depth]⟩
  | n, .bool b, _ => ⟨.bool b, rfl, by simp [PyData.canLay0], by simp [PyData.depth]⟩
  | n, .int i, _ => ⟨.int i, rfl, by simp [PyData.canLay0], by simp [PyData.depth]⟩
  | n, .str x, h => by
    have h : x.all (· < 0x110000) = true := by cases n <;> exact h
    refine ⟨.str ⟨x.toArray⟩, rfl, ?_, by simp [PyData.depth]⟩
    simpa [PyData.canLay0, PyData.strOk] using h
  | 0, .list _, h => by cases h
  | 0, .tup _, h => by cases h
  | 0, .rol _, h => by cases h
  | n + 1, .list xs, h => by
    obtain ⟨ds, q1, q2, q3, _⟩ := good_all (good_py n) xs h
    exact ⟨.list ds, by show (D.toPys xs).map PyData.list = _; rw [q1]; rfl, by simpa [PyData.canLay0] using q2, by simp [PyData.depth]; omega⟩
  | n + 1, .tup xs, h => by
    obtain ⟨ds, q1, q2, q3, _⟩ := good_all (good_py n) xs h
    exact ⟨.tuple ds, by show (D.toPys xs).map PyData.tuple = _; rw [q1]; rfl, by simpa [PyData.canLay0] using q2, by simp [PyData.depth]; omega⟩
  | n + 1, .rol xs, h => by
    obtain ⟨ds, q1, q2, q3, _⟩ := good_all (good_py n) xs h
    exact ⟨.list ds, by show (D.toPys xs).map PyData.list = _; rw [q1]; rfl, by simpa [PyData.canLay0] using q2, by simp [PyData.depth]; omega⟩
theorem eqD_refl {n : Nat} (hn : n ≤ 60) {x : D} (h : x.good n = true) : eqD x x = some true := by
  have deep : eqDeep x x = some true := by
    obtain ⟨d, h1, h2, h3⟩ := good_py n x h
    simp [eqDeep, h1, SeqAt.shaped, h2, eqv_refl0 d h2]
    omega
  cases x <;> first | exact deep | simp [eqD]
theorem eqD_nil {n : Nat} (hn : n ≤ 60) {xs : List D} (h : xs.all (D.good n) = true) : eqD (.list xs) (.list []) = some xs.isEmpty := by
  obtain ⟨ds, q1, q2, q3, q4⟩ := good_all (good_py n) xs h
  have e : (D.list xs).toPy = some (.list ds) := by show (D.toPys xs).map PyData.list = _; rw [q1]; rfl
  show eqDeep (.list xs) (.list []) = _
  have e0 : (D.list []).toPy = some (.list []) := rfl
  simp [eqDeep, e, e0, SeqAt.shaped, PyData.canLay0, q2, PyData.canLayAll0, PyData.depth, PyData.depthAll]
  refine ⟨by omega, ?_⟩
  cases xs with
  | nil =>
    have : ds = [] := List.length_eq_zero_iff.mp q4
    subst this
    simp [PyData.eqv, PyData.eqvAll]
  | cons x xs =>
    cases ds with
    | nil => simp at q4
    | cons d ds => simp [PyData.eqv, PyData.eqvAll]
theorem ne_nilE {n : Nat} (hn : n ≤ 60) {xs : List D} (h : xs.all (D.good n) = true) : cmpD .NotEq (.list xs) (.list []) = some (!xs.isEmpty) := by
  show (eqD (.list xs) (.list [])).map _ = _
  rw [eqD_nil hn h]
  rfl
theorem eq_nilE {n : Nat} (hn : n ≤ 60) {xs : List D} (h : xs.all (D.good n) = true) : cmpD .Eq (.list xs) (.list []) = some xs.isEmpty := eqD_nil hn h

@[simp] theorem exM_alloc (xs : List D) (ρ : Env) (k : W → Store → SR) (s : Store) : exM (alloc true (.list xs)) ρ k s = k (.ref s.length) (s ++ [.list xs]) := (rfl)
theorem exM_bind {m : M α} {f : α → M β} {ρ : Env} {k : β → Store → SR} {s s' : Store} {a : α} (h : m s = .ok a s') : exM (M.bind m f) ρ k s = exM (f a) ρ k s' := by
  show exS ((m s).andThen f) ρ k = _
  rw [h]
  rfl
/-- what a cell shows -/
def seen (o : Option Cell) (k : D → SR) : SR := match o with
  | some (.list xs) => k (.list xs)
  | some (.frz d) => k d
  | none => .bad
@[simp] theorem seen_list (xs : List D) (k : D → SR) : seen (some (.list xs)) k = k (.list xs) := (rfl)
@[simp] theorem seen_frz (d : D) (k : D → SR) : seen (some (.frz d)) k = k d := (rfl)
@[simp] theorem exM_peek (n : Nat) (f : D → M β) (ρ : Env) (k : β → Store → SR) (s : Store) : exM (M.bind (peek (.ref n)) f) ρ k s = seen s[n]? fun d => exM (f d) ρ k s := by
  cases e : s[n]? with
  | none =>
    show exS ((match s[n]? with | some (.list xs) => Res.ok (D.list xs) s | some (.frz d) => .ok d s | none => .bad).andThen f) ρ k = _
    rw [e]; rfl
  | some c =>
    cases c with
    | list xs =>
      show exS ((match s[n]? with | some (.list xs) => Res.ok (D.list xs) s | some (.frz d) => .ok d s | none => .bad).andThen f) ρ k = _
      rw [e]; rfl
    | frz d =>
      show exS ((match s[n]? with | some (.list xs) => Res.ok (D.list xs) s | some (.frz d) => .ok d s | none => .bad).andThen f) ρ k = _
      rw [e]; rfl
def appS (o : Option Cell) (k : List D → SR) : SR := match o with
  | some (.list xs) => k xs
  | _ => .bad
@[simp] theorem appS_list (xs : List D) (k : List D → SR) : appS (some (.list xs)) k = k xs := (rfl)
@[simp] theorem exM_guardL (n : Nat) (f : Unit → M β) (ρ : Env) (k : β → Store → SR) (s : Store) : exM (M.bind (guardL (.ref n)) f) ρ k s = appS s[n]? fun _ => exM (f ()) ρ k s := by
  show exS ((match s[n]? with | some (.list _) => Res.ok () s | _ => .bad).andThen f) ρ k = _
  cases s[n]? with
  | none => rfl
  | some c => cases c <;> rfl
@[simp] theorem exM_append (n : Nat) (x : D) (ρ : Env) (k : W → Store → SR) (s : Store) : exM (append (.ref n) x) ρ k s = appS s[n]? fun xs => if xs.length < 16777216 then k (.d .non) (s.set n (.list (xs ++ [x]))) else .bad := by
  show exS (match s[n]? with | some (.list xs) => (if decide (xs.length < 16777216) then Res.ok (W.d .non) (s.set n (.list (xs ++ [x]))) else .bad) | _ => .bad) ρ k = _
  cases s[n]? with
  | none => rfl
  | some c =>
    cases c with
    | list xs =>
      show exS (if decide (xs.length < 16777216) = true then Res.ok (W.d .non) (s.set n (.list (xs ++ [x]))) else .bad) ρ k = if xs.length < 16777216 then k (.d .non) (s.set n (.list (xs ++ [x]))) else .bad
      by_cases h : xs.length < 16777216
      · rw [decide_eq_true h, if_pos rfl, if_pos h]
        rfl
      · rw [decide_eq_false h, if_neg Bool.false_ne_true, if_neg h]
        rfl
    | frz d => rfl
theorem peeks_ds : ∀ (xs : List D) (s : Store), peeks (xs.map W.d) s = .ok xs s
  | [], _ => rfl
  | x :: xs, s => by
    show ((peeks (xs.map W.d) s).andThen fun ys => M.pure (x :: ys)) = _
    rw [peeks_ds xs s]
    rfl
theorem freezes_ds : ∀ (xs : List D) (s : Store), freezes (xs.map W.d) s = .ok xs s
  | [], _ => rfl
  | x :: xs, s => by
    show ((freezes (xs.map W.d) s).andThen fun ys => M.pure (x :: ys)) = _
    rw [freezes_ds xs s]
    rfl
theorem pcall_ds {f : Str} {xs : List D} {w : W} {y : D} {st st' : Store} (h : run f (xs.map .d) [] = .ok w st) (h2 : freeze w st = .ok y st') : pcall run f (xs.map .d) = M.pure y := by
  funext s
  unfold pcall
  rw [peeks_ds]
  show (match run f (xs.map .d) [] with
    | .ok w st => (match freeze w st with
      | .ok x _ => if x.atom then Res.ok x s else (freezes (xs.map .d) s).andThen fun _ s => .ok x s
      | _ => .bad)
    | .exc c d _ => (freezes (xs.map .d) s).andThen fun _ s => .exc c d s
    | .bad => .bad) = _
  rw [h]
  show (match freeze w st with
      | .ok x _ => if x.atom then Res.ok x s else (freezes (xs.map .d) s).andThen fun _ s => .ok x s
      | _ => .bad) = _
  rw [h2, freezes_ds]
  show (if y.atom then Res.ok y s else Res.ok y s) = _
  split <;> rfl
theorem pcall0 {f : Str} {y : D} {st : Store} (h : run f [] [] = .ok (.d y) st) : pcall run f [] = M.pure y := pcall_ds (xs := []) h rfl
theorem pcall1 {f : Str} {a y : D} {st : Store} (h : run f [.d a] [] = .ok (.d y) st) : pcall run f [.d a] = M.pure y := pcall_ds (xs := [a]) h rfl
theorem pcall2 {f : Str} {a b y : D} {st : Store} (h : run f [.d a, .d b] [] = .ok (.d y) st) : pcall run f [.d a, .d b] = M.pure y := pcall_ds (xs := [a, b]) h rfl
theorem pcall3 {f : Str} {a b c y : D} {st : Store} (h : run f [.d a, .d b, .d c] [] = .ok (.d y) st) : pcall run f [.d a, .d b, .d c] = M.pure y := pcall_ds (xs := [a, b, c]) h rfl
theorem freeze_ref {n : Nat} {st : Store} {xs : List D} (h : st[n]? = some (.list xs)) : freeze (.ref n) st = .ok (.list xs) (st.set n (.frz (.list xs))) := by
  show (match st[n]? with | some (.list xs) => Res.ok (D.list xs) (st.set n (.frz (.list xs))) | some (.frz d) => .ok d st | none => .bad) = _
  rw [h]
/-- cells handed over, an atom back -/
theorem pcall_atom {f : Str} {ws : List W} {xs : List D} {y : D} {s st : Store} (hp : peeks ws s = .ok xs s) (h : run f (xs.map .d) [] = .ok (.d y) st) (ha : y.atom = true) : pcall run f ws s = .ok y s := by
  unfold pcall
  rw [hp]
  show (match run f (xs.map .d) [] with
    | .ok w st => (match freeze w st with
      | .ok x _ => if x.atom then Res.ok x s else (freezes ws s).andThen fun _ s => .ok x s
      | _ => .bad)
    | .exc c d _ => (freezes ws s).andThen fun _ s => .exc c d s
    | .bad => .bad) = _
  rw [h]
  show (if y.atom then Res.ok y s else (freezes ws s).andThen fun _ s => .ok y s) = _
  rw [if_pos ha]
theorem split_E {c : Nat} {t : List Nat} (hc : c < 256) (h : t.length ≤ 1000000) : mtD .split (.str t) [.str [c]] = some (.list ((splitC [c] t).map .str)) := by
  simp [mtD, mt1D, hc, fits]
  omega
theorem spl_parts (c : Nat) : ∀ (k : Nat) (acc r : List Nat), (∀ p ∈ TL.spl [c] k acc r, p.length ≤ acc.length + r.length ∧ ∀ x ∈ p, x ∈ acc ∨ x ∈ r) ∧ (TL.spl [c] k acc r).length ≤ r.length + 1 ∧ TL.spl [c] k acc r ≠ []
  | k, acc, [] => by
    rw [TL.spl_nil]
    simp
  | 0, acc, x :: r => by
    unfold TL.spl
    split
    · obtain ⟨h1, h2, h3⟩ := spl_parts c 0 [] r
      refine ⟨fun p hp => ?_, by simp at h2 ⊢; omega, by simp⟩
      rcases List.mem_cons.mp hp with rfl | hp
      · exact ⟨by simp, fun y hy => .inl hy⟩
      · obtain ⟨q1, q2⟩ := h1 p hp
        simp at q1 q2
        exact ⟨by simp; omega, fun y hy => .inr (List.mem_cons_of_mem _ (q2 y hy))⟩
    · obtain ⟨h1, h2, h3⟩ := spl_parts c 0 (acc ++ [x]) r
      refine ⟨fun p hp => ?_, by simp at h2 ⊢; omega, h3⟩
      obtain ⟨q1, q2⟩ := h1 p hp
      simp at q1 q2
      refine ⟨by simp; omega, fun y hy => ?_⟩
      rcases q2 y hy with (h | h) | h
      · exact .inl h
      · exact .inr (by simp [h])
      · exact .inr (by simp [h])
  | k + 1, acc, x :: r => by
    unfold TL.spl
    obtain ⟨h1, h2, h3⟩ := spl_parts c k acc r
    refine ⟨fun p hp => ?_, by simp at h2 ⊢; omega, h3⟩
    obtain ⟨q1, q2⟩ := h1 p hp
    refine ⟨by simp; omega, fun y hy => ?_⟩
    rcases q2 y hy with h | h
    · exact .inl h
    · exact .inr (by simp [h])
theorem split_len {c : Nat} {t p : List Nat} (h : p ∈ splitC [c] t) : p.length ≤ t.length := by
  have := ((spl_parts c 0 [] t).1 p h).1
  simpa using this
theorem split_mem {c : Nat} {t p : List Nat} (h : p ∈ splitC [c] t) : ∀ x ∈ p, x ∈ t := fun x hx => by
  have := ((spl_parts c 0 [] t).1 p h).2 x hx
  simpa using this
theorem split_num (c : Nat) (t : List Nat) : (splitC [c] t).length ≤ t.length + 1 := (spl_parts c 0 [] t).2.1
theorem split_ne (c : Nat) (t : List Nat) : splitC [c] t ≠ [] := (spl_parts c 0 [] t).2.2
theorem lc_strs {body : D → M (Option D)} {ps : List (List Nat)} (g : List Nat → D) (h : ∀ p ∈ ps, body (.str p) = M.pure (some (g p))) (hl : ps.length ≤ 16777216) : lcLoop body (ps.map .str) [] = M.pure (ps.map g) := by
  rw [lcLoop_pure (fun x => match x with | .str p => some (g p) | _ => none) (fun x hx => ?_) (by simpa using hl)]
  · rw [List.reverse_nil, List.nil_append, List.filterMap_map]
    show M.pure (List.filterMap (fun p => some (g p)) ps) = _
    simp
  · obtain ⟨p, hp, rfl⟩ := List.mem_map.mp hx
    exact h p hp
theorem in_flat {x : D} {ys : List D} (h : x.flat = true) (h2 : ys.all D.flat = true) (hx : ∀ c, x ≠ .str [c]) : cmpD .In x (.list ys) = some (ys.any fun z => eqF z x) := by
  have go : (if x.flat && ys.all D.flat then some (ys.any fun z => eqF z x) else inDeep x ys) = some (ys.any fun z => eqF z x) := by rw [h, h2]; rfl
  cases x with
  | str s => match s, hx with
    | [], _ => exact go
    | [c], hx => exact absurd rfl (hx c)
    | _ :: _ :: _, _ => exact go
  | _ => exact go

theorem none_any {n : Nat} : ∀ {ys : List D} {ds : List PyData}, D.toPys ys = some ds → ds.any (fun y => PyData.eqv y .none) = ys.any isNon
  | [], ds, h => by cases h; rfl
  | y :: ys, ds, h => by
    obtain ⟨a, q1, q⟩ := Option.bind_eq_some_iff.mp (show ((D.toPy y).bind fun a => (D.toPys ys).map fun r => a :: r) = some ds from h)
    obtain ⟨r, q2, rfl⟩ := Option.map_eq_some_iff.mp q
    rw [List.any_cons, List.any_cons, none_any (n := n) q2]
    congr 1
    cases y with
    | non => cases q1; simp [PyData.eqv, isNon]
    | bool b => cases q1; simp [PyData.eqv, isNon]
    | int b => cases q1; simp [PyData.eqv, isNon]
    | str b => cases q1; simp [PyData.eqv, isNon]
    | list xs => obtain ⟨l, _, rfl⟩ := Option.map_eq_some_iff.mp (show (D.toPys xs).map PyData.list = some a from q1); simp [PyData.eqv, isNon]
    | tup xs => obtain ⟨l, _, rfl⟩ := Option.map_eq_some_iff.mp (show (D.toPys xs).map PyData.tuple = some a from q1); simp [PyData.eqv, isNon]
    | rol xs => obtain ⟨l, _, rfl⟩ := Option.map_eq_some_iff.mp (show (D.toPys xs).map PyData.list = some a from q1); simp [PyData.eqv, isNon]
theorem none_flat : ∀ {ys : List D}, (ys.any fun z => eqF z .non) = ys.any isNon
  | [] => rfl
  | y :: ys => by
    rw [List.any_cons, List.any_cons, none_flat]
    cases y <;> rfl
theorem none_go {n : Nat} (hn : n ≤ 60) {ys : List D} (h : ys.all (D.good n) = true) : (if D.non.flat && ys.all D.flat then some (ys.any fun z => eqF z D.non) else inDeep .non ys) = some (ys.any isNon) := by
  split
  · rw [none_flat]
  · obtain ⟨ds, q1, q2, q3, _⟩ := good_all (good_py n) ys h
    have e : (D.non).toPy = some .none := rfl
    simp only [inDeep, e, q1, Option.bind_some]
    rw [none_any (n := n) q1]
    simp [PyData.canLay0, q2, PyData.depth]
theorem none_inL {n : Nat} (hn : n ≤ 60) {ys : List D} (h : ys.all (D.good n) = true) : cmpD .In .non (.list ys) = some (ys.any isNon) := none_go hn h
theorem none_inT {n : Nat} (hn : n ≤ 60) {ys : List D} (h : ys.all (D.good n) = true) : cmpD .In .non (.tup ys) = some (ys.any isNon) := none_go hn h

theorem lc_f {pl : Type} {body : D → M (Option D)} (f : pl → D) (g : pl → Option D) : ∀ {ps : List pl} {acc : List D}, (∀ p ∈ ps, body (f p) = M.pure (g p)) → acc.length + ps.length ≤ 16777216 → lcLoop body (ps.map f) acc = M.pure (acc.reverse ++ ps.filterMap g)
  | [], acc, _, _ => by funext s; simp [lcLoop]
  | x :: xs, acc, h, hl => by
    funext s
    have e := h x (by simp)
    have ih : ∀ acc : List D, acc.length + xs.length ≤ 16777216 → lcLoop body (xs.map f) acc = M.pure (acc.reverse ++ xs.filterMap g) := fun acc hl => lc_f f g (fun y hy => h y (by simp [hy])) hl
    have hl : acc.length + (xs.length + 1) ≤ 16777216 := hl
    show (match body (f x) s with | .ok none s => lcLoop body (xs.map f) acc s | .ok (some y) s => if decide (acc.length < 16777216) then lcLoop body (xs.map f) (y :: acc) s else .bad | _ => .bad) = _
    rw [e]
    cases hg : g x with
    | none =>
      show lcLoop body (xs.map f) acc s = _
      rw [ih acc (by omega), List.filterMap_cons, hg]
    | some y =>
      show (if decide (acc.length < 16777216) then lcLoop body (xs.map f) (y :: acc) s else .bad) = _
      rw [if_pos (by simp; omega), ih (y :: acc) (by simp; omega), List.filterMap_cons, hg]
      simp
theorem lc_g {pl : Type} {body : D → M (Option D)} {ps : List pl} (f g : pl → D) (h : ∀ p ∈ ps, body (f p) = M.pure (some (g p))) (hl : ps.length ≤ 16777216) : lcLoop body (ps.map f) [] = M.pure (ps.map g) := by
  rw [lc_f f (fun p => some (g p)) h (by simpa using hl)]
  simp
theorem strsL_map : ∀ ps : List (List Nat), strsL (ps.map .str) = some ps
  | [] => rfl
  | p :: ps => by simp [strsL, strsL_map ps]
theorem join_E {sep : List Nat} {ps : List (List Nat)} (h : (ps.map (·.length)).sum + ps.length * sep.length ≤ 16777216) : mtD .join (.str sep) [.list (ps.map .str)] = some (.str (joinC sep ps)) := by
  simp [mtD, mt1D, items, strsL_map, fits, h]
theorem joinC_nil : ∀ ps : List (List Nat), joinC [] ps = ps.flatten
  | [] => rfl
  | [p] => by simp [joinC, TL.joinL]
  | p :: q :: r => by
    have ih := joinC_nil (q :: r)
    unfold joinC at ih ⊢
    rw [TL.joinL, ih]
    simp
theorem index_E {c : Nat} {x : List Nat} (h : c ∈ x) : mtD .index (.str x) [.str [c]] = some (.int (x.idxOf c)) := by simp [mtD, mt1D, h]
theorem find_E {c : Nat} {x : List Nat} (h : c ∈ x) : mtD .find (.str x) [.str [c]] = some (.int (x.idxOf c)) := by simp [mtD, mt1D, h]

theorem range3 {i j c : Int} (h : (decide (c ≠ 0) && decide (c.natAbs < 1073741824) && Builtin.Range.small i j c && decide (0 ≤ Builtin.Range.rangeSize i j c)) = true) : rangeD [.int i, .int j, .int c] = some (rangeC i j c) := by
  simp only [rangeD]
  rw [if_pos h]
@[simp] theorem range1_E {j : Nat} : rangeD [.int (j : Int)] = if small62 j then some (rangeL 0 j) else none := by
  simp only [rangeD, Int.toNat_natCast]
theorem range1' {j : Nat} (h : j ≤ 1000000000) : rangeD [.int (j : Int)] = some ((List.range j).map fun (k : Nat) => .int (k : Int)) := by
  have : small62 (j : Int) = true := decide_eq_true (by omega)
  rw [range1_E, if_pos this]
  simp [rangeL]

theorem andS_assoc (r : SR) (f g : Env → Store → SR) : andS (andS r f) g = andS r fun ρ s => andS (f ρ s) g := by
  cases r with
  | bad => rfl
  | ok fl ρ s => cases fl <;> rfl
theorem evSs_fun (st : S) (ss : List S) : evSs run gl (st :: ss) = fun ρ s => andS (evS run gl st ρ s) (evSs run gl ss) := by
  funext ρ s
  exact evSs_cons st ss ρ s

theorem step_asg {i : Nat} {e : E} {w : W} {rest : List S} {ρ : Env} {s : Store} (h : (sem run gl e).v ρ = M.pure w) : evSs run gl (.asg (.name i) e :: rest) ρ s = evSs run gl rest (setVar i w ρ) s := by
  rw [evSs_cons, evS_asg, h, exM_pure, bindPt_name, asgS_some, andS_next]
theorem step_asgM {i : Nat} {e : E} {w : W} {rest : List S} {ρ : Env} {s s' : Store} (h : (sem run gl e).v ρ s = .ok w s') : evSs run gl (.asg (.name i) e :: rest) ρ s = evSs run gl rest (setVar i w ρ) s' := by
  rw [evSs_cons, evS_asg, exM_ok h, bindPt_name, asgS_some, andS_next]
theorem step_ifset {c : E} {i : Nat} {d : D} {b : Bool} {rest : List S} {ρ : Env} {s : Store} (h : (sem run gl c).t ρ = M.pure b) : evSs run gl (.ite c [.asg (.name i) (.con d)] [] :: rest) ρ s = evSs run gl rest (if b then setVar i (.d d) ρ else ρ) s := by
  rw [evSs_cons, evS_ite, h, exM_pure]
  cases b <;> simp
/-- a test that does not hold -/
theorem step_no {c : E} {a : List S} {rest : List S} {ρ : Env} {s s' : Store} (h : (sem run gl c).t ρ s = .ok false s') : evSs run gl (.ite c a [] :: rest) ρ s = evSs run gl rest ρ s' := by
  rw [evSs_cons, evS_ite, exM_ok h]
  simp
theorem step_expr {e : E} {w : W} {rest : List S} {ρ : Env} {s s' : Store} (h : (sem run gl e).v ρ s = .ok w s') : evSs run gl (.expr e :: rest) ρ s = evSs run gl rest ρ s' := by
  rw [evSs_cons, evS_expr, exM_ok h, andS_next]
theorem step_for {p : Pt} {it : E} {b : List S} {rest : List S} {ρ ρ' : Env} {s s' : Store} {xs : List D} (h : (sem run gl it).i ρ = M.pure xs) (hl : forLoop (forBody p (evSs run gl b)) xs ρ s = .ok .next ρ' s') : evSs run gl (.for p it b :: rest) ρ s = evSs run gl rest ρ' s' := by
  rw [evSs_cons, evS_for, h, exM_pure, hl, andS_next]
theorem lc_v {elt it : E} {tg : Pt} {cs : List E} {own : List Nat} {ρ : Env} {xs ys : List D} (h1 : (sem run gl it).i ρ = M.pure xs) (h2 : lcLoop (lcBody tg (sems run gl cs) (sem run gl elt) (wipeE ρ own)) xs [] = M.pure ys) : (sem run gl (.lc false elt tg it cs own)).v ρ = M.pure (.d (.list ys)) := by
  rw [sem_lc, ofV_v, h1, pure_bindM, h2, pure_bindM, alloc_f]

theorem join_v {e : E} {sep : List Nat} {xs : List D} {z : D} {ρ : Env} (h : (sem run gl e).v ρ = M.pure (.d (.list xs))) (h2 : mtD .join (.str sep) [.list xs] = some z) : (sem run gl (.mt false .join (.con (.str sep)) [e])).v ρ = M.pure (.d z) := by
  rw [sem_mt, ofV_v, sem_con, ofV_v, pure_bindM, peek_d, pure_bindM, isStr_str, guard_true, pure_bindM, sems_cons, sems_nil, smL_cons, smL_nil, h]
  simp only [pure_bindM, peek_d, peeks_cons, peeks_nil, h2, lift_some, alloc_f]
end
end Cr

namespace K77
open PySem L2 Cr
def topS (i : Nat) : Stmt := PySem.Challenge.pw_askewread_k77_notes_of_numbers.main.body.getD i (.Pass ⟨0, 0, 0, 0⟩)
def gvs : List (Str × GV) := [("SIGNS", .str [10, 32, 33, 34, 35, 36, 38, 39, 40, 41, 42, 43, 44, 45, 46, 47, 48, 49, 50, 51, 52, 53, 54, 55, 56, 57, 58, 59, 60, 61, 62, 63, 64, 65, 66, 67, 68, 69, 70, 71, 72, 73, 74, 75, 76, 77, 78, 79, 80, 81, 82, 83, 84, 85, 86, 87, 88, 89, 90, 91, 92, 93, 94, 95, 96, 97, 98, 99, 100, 101, 102, 103, 104, 105, 106, 107, 108, 109, 110, 111, 112, 113, 114, 115, 116, 117, 118, 119, 120, 121, 122, 123, 124, 125, 126]), ("FIGURES", .str [48, 49, 50, 51, 52, 53, 54, 55, 56, 57]), ("MOST_FIGURES", .int 40), ("HEX", .str [48, 49, 50, 51, 52, 53, 54, 55, 56, 57, 97, 98, 99, 100, 101, 102])]
def b_sign_number : Fn := ⟨1, 1, [(.ret (.mt false .index (.glob "SIGNS") [(.var 0)]))]⟩
def b_sign_of_number : Fn := ⟨1, 1, [(.ret (.ite (.cmp2 .LtE .Lt (.con (.int 0)) (.var 0) (.bi false .len [(.glob "SIGNS")])) (.idx (.glob "SIGNS") (.var 0)) (.con .non)))]⟩
def b_read_whole : Fn := ⟨1, 3, [(.asg (.name 1) (.ite (.cmp .Eq (.slice false false true (.var 0) .nil (.con (.int 1))) (.con (.str [45]))) (.slice false true false (.var 0) (.con (.int 1)) .nil) (.var 0))), (.ite (.or (.not (.cmp2 .LtE .LtE (.con (.int 1)) (.bi false .len [(.var 1)]) (.glob "MOST_FIGURES"))) (.not (.bi false .all [(.lc false (.cmp .In (.var 2) (.glob "FIGURES")) (.name 2) (.var 1) [] [2])]))) [(.ret (.con .non))] []), (.ite (.and (.cmp .Eq (.idx (.var 1) (.con (.int 0))) (.con (.str [48]))) (.cmp .NotEq (.var 0) (.con (.str [48])))) [(.ret (.con .non))] []), (.ret (.bi false .int [(.var 0)]))]⟩
def b_show_wholes : Fn := ⟨1, 2, [(.ret (.ite (.var 0) (.mt false .join (.con (.str [32])) [(.lc false (.bi false .str [(.var 1)]) (.name 1) (.var 0) [] [1])]) (.con (.str [45]))))]⟩
def b_read_wholes : Fn := ⟨1, 3, [(.ite (.cmp .Eq (.var 0) (.con (.str [45]))) [(.ret (.list true []))] []), (.asg (.name 1) (.lc true (.call false "read_whole" [(.var 2)]) (.name 2) (.mt false .split (.var 0) [(.con (.str [32]))]) [] [2])), (.ret (.ite (.cmp .In (.con .non) (.var 1)) (.con .non) (.var 1)))]⟩
def b_show_pairs : Fn := ⟨1, 3, [(.ret (.ite (.var 0) (.mt false .join (.con (.str [32])) [(.lc false (.fs [(.fmt (.var 1)), (.con (.str [44])), (.fmt (.var 2))]) (.tup [(.name 1), (.name 2)]) (.var 0) [] [1, 2])]) (.con (.str [45]))))]⟩
def b_read_pair : Fn := ⟨1, 3, [(.asg (.name 1) (.mt false .split (.var 0) [(.con (.str [44]))])), (.ite (.cmp .NotEq (.bi false .len [(.var 1)]) (.con (.int 2))) [(.ret (.con .non))] []), (.asg (.name 2) (.tup [(.call false "read_whole" [(.idx (.var 1) (.con (.int 0)))]), (.call false "read_whole" [(.idx (.var 1) (.con (.int 1)))])])), (.ret (.ite (.cmp .In (.con .non) (.var 2)) (.con .non) (.var 2)))]⟩
def b_read_pairs : Fn := ⟨1, 3, [(.ite (.cmp .Eq (.var 0) (.con (.str [45]))) [(.ret (.list false []))] []), (.asg (.name 1) (.lc false (.call false "read_pair" [(.var 2)]) (.name 2) (.mt false .split (.var 0) [(.con (.str [32]))]) [] [2])), (.ret (.ite (.cmp .In (.con .non) (.var 1)) (.con .non) (.var 1)))]⟩
def b_show_text : Fn := ⟨1, 5, [(.asg (.name 1) (.lc false (.call false "sign_number" [(.var 3)]) (.name 3) (.var 0) [] [3])), (.asg (.name 2) (.mt false .join (.con (.str [])) [(.lc false (.bin false .Add (.idx (.glob "HEX") (.bin false .FloorDiv (.var 4) (.con (.int 16)))) (.idx (.glob "HEX") (.bin false .Mod (.var 4) (.con (.int 16))))) (.name 4) (.var 1) [] [4])])), (.ret (.ite (.var 2) (.var 2) (.con (.str [45]))))]⟩
def b_read_text : Fn := ⟨1, 6, [(.ite (.cmp .Eq (.var 0) (.con (.str [45]))) [(.ret (.con (.str [])))] []), (.ite (.or (.cmp .Eq (.bin false .Mod (.bi false .len [(.var 0)]) (.con (.int 2))) (.con (.int 1))) (.or (.not (.var 0)) (.not (.bi false .all [(.lc false (.cmp .In (.var 3) (.glob "HEX")) (.name 3) (.var 0) [] [3])])))) [(.ret (.con .non))] []), (.asg (.name 1) (.lc false (.bin false .Add (.bin false .Mult (.con (.int 16)) (.mt false .index (.glob "HEX") [(.idx (.var 0) (.var 4))])) (.mt false .index (.glob "HEX") [(.idx (.var 0) (.bin false .Add (.var 4) (.con (.int 1))))])) (.name 4) (.range [(.con (.int 0)), (.bi false .len [(.var 0)]), (.con (.int 2))]) [] [4])), (.asg (.name 2) (.lc false (.call false "sign_of_number" [(.var 5)]) (.name 5) (.var 1) [] [5])), (.ret (.ite (.cmp .In (.con .non) (.var 2)) (.con .non) (.mt false .join (.con (.str [])) [(.var 2)])))]⟩
def b_law_numbers : Fn := ⟨3, 7, [(.asg (.name 3) (.bin false .Mult (.con (.int 1000003)) (.bin false .Add (.var 1) (.con (.int 1))))), (.ite (.cmp .Lt (.var 1) (.bi false .len [(.var 0)])) [(.asg (.name 3) (.bi false .int [(.idx (.var 0) (.var 1))]))] []), (.ite (.cmp .Lt (.var 3) (.con (.int 0))) [(.asg (.name 3) (.bin false .Sub (.con (.int 1)) (.bin false .Mult (.con (.int 2)) (.var 3))))] []), (.asg (.name 4) (.list true [])), (.for (.name 5) (.range [(.var 2)]) [(.ite (.cmp .GtE (.var 3) (.bin false .Pow (.con (.int 10)) (.con (.int 18)))) [(.expr (.app (.var 4) (.bin false .Mod (.var 3) (.con (.int 1009))))), (.asg (.name 3) (.bin false .FloorDiv (.var 3) (.con (.int 1009))))] [(.asg (.name 6) (.bin false .Mod (.bin false .Add (.bin false .Add (.bin false .Mult (.var 3) (.con (.int 48271))) (.bin false .Mult (.bin false .Add (.var 5) (.con (.int 1))) (.con (.int 69621)))) (.bin false .Mult (.var 1) (.con (.int 4001)))) (.con (.int 2147483647)))), (.asg (.name 6) (.bin false .Mod (.bin false .Add (.bin false .Mult (.var 6) (.var 6)) (.bin false .Mult (.con (.int 16807)) (.bin false .Add (.var 5) (.con (.int 3))))) (.con (.int 2147483629)))), (.expr (.app (.var 4) (.bin false .Mod (.bin false .FloorDiv (.var 6) (.con (.int 7))) (.con (.int 1009)))))])]), (.ret (.var 4))]⟩
def b_law_same : Fn := ⟨2, 3, [(.ite (.cmp .Is (.var 1) (.con .non)) [(.ret (.cmp .Is (.var 0) (.con .non)))] []), (.ite (.isI (.var 1) .bool) [(.ret (.and (.isI (.var 0) .bool) (.cmp .Eq (.var 0) (.var 1))))] []), (.ite (.isI (.var 1) .int) [(.ret (.and (.isI (.var 0) .int) (.and (.not (.isI (.var 0) .bool)) (.cmp .Eq (.var 0) (.var 1)))))] []), (.ite (.isI (.var 1) .str) [(.ret (.and (.isI (.var 0) .str) (.cmp .Eq (.var 0) (.var 1))))] []), (.ite (.or (.and (.isI (.var 1) .list) (.not (.isI (.var 0) .list))) (.and (.isI (.var 1) .tuple) (.not (.isI (.var 0) .tuple)))) [(.ret (.con (.bool false)))] []), (.ite (.cmp .NotEq (.bi false .len [(.var 0)]) (.bi false .len [(.var 1)])) [(.ret (.con (.bool false)))] []), (.for (.name 2) (.range [(.bi false .len [(.var 1)])]) [(.ite (.not (.call false "_law_same" [(.idx (.var 0) (.var 2)), (.idx (.var 1) (.var 2))])) [(.ret (.con (.bool false)))] [])]), (.ret (.con (.bool true)))]⟩
def b_law_signs : Fn := ⟨0, 0, [(.ret (.con (.str [10, 32, 33, 34, 35, 36, 38, 39, 40, 41, 42, 43, 44, 45, 46, 47, 48, 49, 50, 51, 52, 53, 54, 55, 56, 57, 58, 59, 60, 61, 62, 63, 64, 65, 66, 67, 68, 69, 70, 71, 72, 73, 74, 75, 76, 77, 78, 79, 80, 81, 82, 83, 84, 85, 86, 87, 88, 89, 90, 91, 92, 93, 94, 95, 96, 97, 98, 99, 100, 101, 102, 103, 104, 105, 106, 107, 108, 109, 110, 111, 112, 113, 114, 115, 116, 117, 118, 119, 120, 121, 122, 123, 124, 125, 126])))]⟩
def b_law_hex : Fn := ⟨1, 5, [(.asg (.name 1) (.call false "_law_signs" [])), (.asg (.name 2) (.con (.str []))), (.for (.name 3) (.var 0) [(.asg (.name 4) (.mt false .find (.var 1) [(.var 3)])), (.asg (.name 2) (.bin false .Add (.bin false .Add (.var 2) (.idx (.con (.str [48, 49, 50, 51, 52, 53, 54, 55, 56, 57, 97, 98, 99, 100, 101, 102])) (.bin false .FloorDiv (.var 4) (.con (.int 16))))) (.idx (.con (.str [48, 49, 50, 51, 52, 53, 54, 55, 56, 57, 97, 98, 99, 100, 101, 102])) (.bin false .Mod (.var 4) (.con (.int 16))))))]), (.ret (.idx (.list false [(.var 2), (.con (.str [45]))]) (.bi false .int [(.cmp .Eq (.var 0) (.con (.str [])))])))]⟩
def b_law_whole : Fn := ⟨1, 3, [(.asg (.name 1) (.var 0)), (.ite (.cmp .Eq (.slice false false true (.var 0) .nil (.con (.int 1))) (.con (.str [45]))) [(.asg (.name 1) (.slice false true false (.var 0) (.con (.int 1)) .nil))] []), (.ite (.or (.cmp .Lt (.bi false .len [(.var 1)]) (.con (.int 1))) (.or (.cmp .Gt (.bi false .len [(.var 1)]) (.con (.int 40))) (.cmp .NotEq (.lc false (.var 2) (.name 2) (.var 1) [(.cmp .NotIn (.var 2) (.con (.str [48, 49, 50, 51, 52, 53, 54, 55, 56, 57])))] [2]) (.list false [])))) [(.ret (.con .non))] []), (.ite (.and (.cmp .Eq (.idx (.var 1) (.con (.int 0))) (.con (.str [48]))) (.or (.cmp .Gt (.bi false .len [(.var 1)]) (.con (.int 1))) (.cmp .NotEq (.var 0) (.var 1)))) [(.ret (.con .non))] []), (.ret (.bi false .int [(.var 0)]))]⟩
def b_law_wholes : Fn := ⟨1, 3, [(.ite (.cmp .Eq (.var 0) (.con (.str [45]))) [(.ret (.list false []))] []), (.asg (.name 1) (.lc false (.call false "_law_whole" [(.var 2)]) (.name 2) (.mt false .split (.var 0) [(.con (.str [32]))]) [] [2])), (.ite (.cmp .In (.con .non) (.var 1)) [(.ret (.con .non))] []), (.ret (.var 1))]⟩
def b_law_pairs : Fn := ⟨1, 5, [(.ite (.cmp .Eq (.var 0) (.con (.str [45]))) [(.ret (.list false []))] []), (.asg (.name 1) (.list true [])), (.for (.name 2) (.mt false .split (.var 0) [(.con (.str [32]))]) [(.asg (.name 3) (.lc false (.call false "_law_whole" [(.var 4)]) (.name 4) (.mt false .split (.var 2) [(.con (.str [44]))]) [] [4])), (.ite (.or (.cmp .NotEq (.bi false .len [(.var 3)]) (.con (.int 2))) (.cmp .In (.con .non) (.var 3))) [(.ret (.con .non))] []), (.expr (.app (.var 1) (.tup [(.idx (.var 3) (.con (.int 0))), (.idx (.var 3) (.con (.int 1)))])))]), (.ret (.var 1))]⟩
def b_law_text : Fn := ⟨1, 5, [(.ite (.cmp .Eq (.var 0) (.con (.str [45]))) [(.ret (.con (.str [])))] []), (.ite (.or (.cmp .Eq (.var 0) (.con (.str []))) (.or (.cmp .Eq (.bin false .Mod (.bi false .len [(.var 0)]) (.con (.int 2))) (.con (.int 1))) (.cmp .NotEq (.lc false (.var 4) (.name 4) (.var 0) [(.cmp .NotIn (.var 4) (.con (.str [48, 49, 50, 51, 52, 53, 54, 55, 56, 57, 97, 98, 99, 100, 101, 102])))] [4]) (.list false [])))) [(.ret (.con .non))] []), (.asg (.name 1) (.con (.str []))), (.for (.name 2) (.range [(.con (.int 0)), (.bi false .len [(.var 0)]), (.con (.int 2))]) [(.asg (.name 3) (.bin false .Add (.bin false .Mult (.con (.int 16)) (.mt false .find (.con (.str [48, 49, 50, 51, 52, 53, 54, 55, 56, 57, 97, 98, 99, 100, 101, 102])) [(.idx (.var 0) (.var 2))])) (.mt false .find (.con (.str [48, 49, 50, 51, 52, 53, 54, 55, 56, 57, 97, 98, 99, 100, 101, 102])) [(.idx (.var 0) (.bin false .Add (.var 2) (.con (.int 1))))]))), (.ite (.cmp .Gt (.var 3) (.con (.int 94))) [(.ret (.con .non))] []), (.asg (.name 1) (.bin false .Add (.var 1) (.idx (.call false "_law_signs" []) (.var 3))))]), (.ret (.var 1))]⟩
def b_law_number : Fn := ⟨2, 6, [(.asg (.name 2) (.idx (.list false [(.bin false .Add (.con (.int 1)) (.bin false .Mod (.idx (.var 0) (.var 1)) (.con (.int 40)))), (.con (.int 40)), (.con (.int 1)), (.con (.int 3))]) (.bin false .Mod (.bin false .FloorDiv (.idx (.var 0) (.var 1)) (.con (.int 41))) (.con (.int 4))))), (.asg (.name 3) (.bi false .str [(.bin false .Add (.con (.int 1)) (.bin false .Mod (.idx (.var 0) (.bin false .Add (.var 1) (.con (.int 1)))) (.con (.int 9))))])), (.for (.name 4) (.range [(.bin false .Sub (.var 2) (.con (.int 1)))]) [(.asg (.name 3) (.bin false .Add (.var 3) (.bi false .str [(.bin false .Mod (.bin false .Add (.bin false .FloorDiv (.idx (.var 0) (.bin false .Mod (.bin false .Add (.var 1) (.var 4)) (.con (.int 60)))) (.bin false .Add (.con (.int 1)) (.bin false .Mod (.var 4) (.con (.int 7))))) (.var 4)) (.con (.int 10)))])))]), (.asg (.name 5) (.idx (.list false [(.bi false .int [(.var 3)]), (.bin false .Pow (.con (.int 10)) (.con (.int 39))), (.con (.int 0)), (.bin false .Sub (.bin false .Pow (.con (.int 10)) (.con (.int 40))) (.con (.int 1))), (.bi false .int [(.var 3)])]) (.bin false .Mod (.idx (.var 0) (.bin false .Add (.var 1) (.con (.int 2)))) (.con (.int 5))))), (.ret (.idx (.list false [(.var 5), (.bin false .Sub (.con (.int 0)) (.var 5))]) (.bin false .Mod (.idx (.var 0) (.bin false .Add (.var 1) (.con (.int 3)))) (.con (.int 2)))))]⟩
def b_law_near : Fn := ⟨2, 6, [(.asg (.name 2) (.bin false .Mod (.idx (.var 1) (.con (.int 0))) (.bin false .Add (.bi false .len [(.var 0)]) (.con (.int 1))))), (.asg (.name 3) (.list true [(.var 0), (.con (.str [])), (.con (.str [45])), (.con (.str [32])), (.bin false .Add (.var 0) (.con (.str [32]))), (.bin false .Add (.con (.str [32])) (.var 0)), (.bin false .Add (.var 0) (.con (.str [10]))), (.bin false .Add (.con (.str [48])) (.var 0)), (.bin false .Add (.con (.str [45])) (.var 0)), (.bin false .Add (.con (.str [43])) (.var 0)), (.bin false .Add (.var 0) (.var 0)), (.rev (.var 0))])), (.for (.name 4) (.list false [(.con (.str [])), (.con (.str [32])), (.con (.str [45])), (.con (.str [44])), (.con (.str [48])), (.con (.str [55])), (.con (.str [97])), (.con (.str [70])), (.con (.str [53, 102])), (.con (.str [48, 48])), (.con (.str [95])), (.con (.str [10])), (.con (.str [46])), (.con (.str [120])), (.con (.str [32, 32])), (.con (.str [49, 44, 50])), (.con (.str [53, 101]))]) [(.expr (.app (.var 3) (.bin false .Add (.bin false .Add (.slice false false true (.var 0) .nil (.var 2)) (.var 4)) (.slice false true false (.var 0) (.var 2) .nil)))), (.expr (.app (.var 3) (.bin false .Add (.bin false .Add (.slice false false true (.var 0) .nil (.var 2)) (.var 4)) (.slice false true false (.var 0) (.bin false .Add (.var 2) (.con (.int 1))) .nil))))]), (.asg (.name 5) (.list false [(.con (.str [48])), (.con (.str [45, 48])), (.con (.str [48, 48])), (.con (.str [48, 49])), (.con (.str [45, 48, 49])), (.con (.str [45, 45, 49])), (.con (.str [49, 45])), (.con (.str [49, 32, 45])), (.con (.str [45, 32, 49])), (.con (.str [49, 44])), (.con (.str [44, 49])), (.con (.str [49, 44, 50, 44, 51])), (.con (.str [49, 44, 32, 50])), (.con (.str [45, 44, 45])), (.con (.str [48, 44, 45, 48])), (.con (.str [53, 70])), (.con (.str [53, 102])), (.con (.str [53, 101])), (.con (.str [48, 120])), (.con (.str [49, 95, 48]))])), (.ret (.bin false .Add (.bin false .Add (.var 3) (.var 5)) (.list false [(.bin false .Mult (.con (.str [57])) (.con (.int 40))), (.bin false .Mult (.con (.str [57])) (.con (.int 41))), (.bin false .Add (.con (.str [45])) (.bin false .Mult (.con (.str [57])) (.con (.int 40)))), (.bin false .Add (.con (.str [45])) (.bin false .Mult (.con (.str [57])) (.con (.int 41)))), (.bin false .Add (.con (.str [49])) (.bin false .Mult (.con (.str [48])) (.con (.int 40)))), (.bin false .Mult (.con (.str [53])) (.con (.int 99)))])))]⟩
def b_law_reads : Fn := ⟨1, 1, [(.ite (.or (.not (.call false "_law_same" [(.call false "read_whole" [(.var 0)]), (.call false "_law_whole" [(.var 0)])])) (.not (.call false "_law_same" [(.call true "read_wholes" [(.var 0)]), (.call false "_law_wholes" [(.var 0)])]))) [(.ret (.con (.bool false)))] []), (.ret (.and (.call false "_law_same" [(.call false "read_pairs" [(.var 0)]), (.call false "_law_pairs" [(.var 0)])]) (.call false "_law_same" [(.call false "read_text" [(.var 0)]), (.call false "_law_text" [(.var 0)])])))]⟩
def b_law : Fn := ⟨1, 16, [(.asg (.name 1) (.call false "_law_numbers" [(.var 0), (.con (.int 0)), (.con (.int 60))])), (.asg (.name 2) (.call false "_law_numbers" [(.var 0), (.con (.int 1)), (.con (.int 60))])), (.asg (.name 3) (.lc false (.call false "_law_number" [(.var 1), (.bin false .Mult (.con (.int 5)) (.var 14))]) (.name 14) (.range [(.bin false .Mod (.idx (.var 1) (.con (.int 50))) (.con (.int 9)))]) [] [14])), (.asg (.name 4) (.lc false (.tup [(.call false "_law_number" [(.var 2), (.bin false .Mult (.con (.int 5)) (.var 14))]), (.call false "_law_number" [(.var 1), (.bin false .Add (.bin false .Mult (.con (.int 5)) (.var 14)) (.con (.int 2)))])]) (.name 14) (.range [(.bin false .Mod (.idx (.var 1) (.con (.int 51))) (.con (.int 7)))]) [] [14])), (.asg (.name 5) (.idx (.list false [(.bin false .Mod (.idx (.var 1) (.con (.int 52))) (.con (.int 31))), (.con (.int 300))]) (.bi false .int [(.cmp .Eq (.bin false .Mod (.idx (.var 1) (.con (.int 53))) (.con (.int 16))) (.con (.int 0)))]))), (.asg (.name 6) (.mt false .join (.con (.str [])) [(.lc false (.idx (.call false "_law_signs" []) (.bin false .Mod (.bin false .Add (.bin false .Add (.idx (.var 2) (.bin false .Mod (.var 14) (.con (.int 60)))) (.bin false .Mult (.bin false .FloorDiv (.var 14) (.con (.int 60))) (.idx (.var 1) (.con (.int 54))))) (.var 14)) (.con (.int 95)))) (.name 14) (.range [(.var 5)]) [] [14])])), (.asg (.name 7) (.mt false .join (.con (.str [32])) [(.lc false (.bi false .str [(.var 13)]) (.name 13) (.var 3) [] [13])])), (.ite (.cmp .Eq (.var 3) (.list false [])) [(.asg (.name 7) (.con (.str [45])))] []), (.asg (.name 8) (.mt false .join (.con (.str [32])) [(.lc false (.bin false .Add (.bin false .Add (.bi false .str [(.idx (.var 15) (.con (.int 0)))]) (.con (.str [44]))) (.bi false .str [(.idx (.var 15) (.con (.int 1)))])) (.name 15) (.var 4) [] [15])])), (.ite (.cmp .Eq (.var 4) (.list false [])) [(.asg (.name 8) (.con (.str [45])))] []), (.asg (.name 9) (.bi false .list [(.var 3)])), (.ite (.or (.not (.call false "_law_same" [(.call false "show_wholes" [(.var 9)]), (.var 7)])) (.or (.not (.call false "_law_same" [(.call false "show_pairs" [(.bi false .list [(.var 4)])]), (.var 8)])) (.not (.call false "_law_same" [(.call false "show_text" [(.var 6)]), (.call false "_law_hex" [(.var 6)])])))) [(.ret (.con (.bool false)))] []), (.asg (.name 10) (.call true "read_wholes" [(.var 7)])), (.ite (.or (.not (.call false "_law_same" [(.var 10), (.var 3)])) (.or (.not (.call false "_law_same" [(.call false "read_pairs" [(.var 8)]), (.var 4)])) (.not (.call false "_law_same" [(.call false "read_text" [(.call false "_law_hex" [(.var 6)])]), (.var 6)])))) [(.ret (.con (.bool false)))] []), (.expr (.app (.var 10) (.con (.int 1)))), (.ite (.or (.not (.call false "_law_same" [(.call true "read_wholes" [(.var 7)]), (.var 3)])) (.or (.cmp .NotEq (.var 9) (.var 3)) (.or (.cmp .NotEq (.call true "read_wholes" [(.con (.str [45]))]) (.list false [])) (.cmp .NotEq (.call false "read_text" [(.con (.str [45]))]) (.con (.str [])))))) [(.ret (.con (.bool false)))] []), (.for (.name 11) (.list false [(.var 7), (.var 8), (.slice false false true (.call false "_law_hex" [(.var 6)]) .nil (.con (.int 80))), (.idx (.mt false .split (.var 7) [(.con (.str [32]))]) (.con (.int 0)))]) [(.for (.name 12) (.call false "_law_near" [(.var 11), (.slice false true false (.var 1) (.con (.int 55)) .nil)]) [(.ite (.not (.call false "_law_reads" [(.var 12)])) [(.ret (.con (.bool false)))] [])])]), (.for (.name 13) (.var 3) [(.ite (.or (.not (.call false "_law_same" [(.call false "read_whole" [(.bi false .str [(.var 13)])]), (.var 13)])) (.not (.call false "_law_same" [(.call true "read_wholes" [(.bi false .str [(.var 13)])]), (.list false [(.var 13)])]))) [(.ret (.con (.bool false)))] [])]), (.ret (.and (.call false "_law_same" [(.call false "read_whole" [(.con (.str [45]))]), (.con .non)]) (.and (.call false "_law_same" [(.call false "show_pairs" [(.list false [(.tup [(.con (.int 0)), (.un .USub (.con (.int 1)))])])]), (.con (.str [48, 44, 45, 49]))]) (.call false "_law_same" [(.call false "show_text" [(.con (.str [10, 126]))]), (.con (.str [48, 48, 53, 101]))]))))]⟩
def fnTab : List (Str × Fn) := [("sign_number", b_sign_number), ("sign_of_number", b_sign_of_number), ("read_whole", b_read_whole), ("show_wholes", b_show_wholes), ("read_wholes", b_read_wholes), ("show_pairs", b_show_pairs), ("read_pair", b_read_pair), ("read_pairs", b_read_pairs), ("show_text", b_show_text), ("read_text", b_read_text), ("_law_numbers", b_law_numbers), ("_law_same", b_law_same), ("_law_signs", b_law_signs), ("_law_hex", b_law_hex), ("_law_whole", b_law_whole), ("_law_wholes", b_law_wholes), ("_law_pairs", b_law_pairs), ("_law_text", b_law_text), ("_law_number", b_law_number), ("_law_near", b_law_near), ("_law_reads", b_law_reads), ("law", b_law)]
def im (x : Str) : Bool := (["read_wholes"] : List Str).contains x
def d_sign_number : DS := ⟨"sign_number", topS 2, ["sign"], ["sign"], [], false⟩
def d_sign_of_number : DS := ⟨"sign_of_number", topS 3, ["n"], ["n"], [], false⟩
def d_read_whole : DS := ⟨"read_whole", topS 7, ["text", "plain", "sign"], ["text"], [], false⟩
def d_show_wholes : DS := ⟨"show_wholes", topS 8, ["numbers", "n"], ["numbers"], [], false⟩
def d_read_wholes : DS := ⟨"read_wholes", topS 9, ["text", "found", "part"], ["text"], ["found"], true⟩
def d_show_pairs : DS := ⟨"show_pairs", topS 10, ["pairs", "a", "b"], ["pairs"], [], false⟩
def d_read_pair : DS := ⟨"read_pair", topS 11, ["text", "parts", "told"], ["text"], [], false⟩
def d_read_pairs : DS := ⟨"read_pairs", topS 12, ["text", "found", "part"], ["text"], [], false⟩
def d_show_text : DS := ⟨"show_text", topS 13, ["text", "told", "found", "sign", "n"], ["text"], [], false⟩
def d_read_text : DS := ⟨"read_text", topS 15, ["told", "found", "signs", "sign", "k", "n"], ["told"], [], false⟩
def d_law_numbers : DS := ⟨"_law_numbers", topS 17, ["script", "at", "count", "cell", "numbers", "k", "mixed"], ["script", "at", "count"], ["numbers"], false⟩
def d_law_same : DS := ⟨"_law_same", topS 18, ["value", "due", "k"], ["value", "due"], [], false⟩
def d_law_signs : DS := ⟨"_law_signs", topS 19, [], [], [], false⟩
def d_law_hex : DS := ⟨"_law_hex", topS 20, ["text", "signs", "told", "sign", "place"], ["text"], [], false⟩
def d_law_whole : DS := ⟨"_law_whole", topS 21, ["text", "body", "sign"], ["text"], [], false⟩
def d_law_wholes : DS := ⟨"_law_wholes", topS 22, ["text", "told", "one"], ["text"], [], false⟩
def d_law_pairs : DS := ⟨"_law_pairs", topS 23, ["text", "told", "one", "pair", "part"], ["text"], ["told"], false⟩
def d_law_text : DS := ⟨"_law_text", topS 24, ["told", "text", "at", "place", "sign"], ["told"], [], false⟩
def d_law_number : DS := ⟨"_law_number", topS 25, ["numbers", "k", "size", "figures", "at", "value"], ["numbers", "k"], [], false⟩
def d_law_near : DS := ⟨"_law_near", topS 26, ["text", "numbers", "at", "cases", "sign", "more"], ["text", "numbers"], ["cases"], false⟩
def d_law_reads : DS := ⟨"_law_reads", topS 27, ["text"], ["text"], [], false⟩
def d_law : DS := ⟨"law", topS 28, ["script", "numbers", "drawn", "listed", "pairs", "many", "text", "wholes", "paired", "handed", "told", "one", "near", "number", "k", "pair"], ["script"], ["told"], false⟩
def defs : List DS := [d_sign_number, d_sign_of_number, d_read_whole, d_show_wholes, d_read_wholes, d_show_pairs, d_read_pair, d_read_pairs, d_show_text, d_read_text, d_law_numbers, d_law_same, d_law_signs, d_law_hex, d_law_whole, d_law_wholes, d_law_pairs, d_law_text, d_law_number, d_law_near, d_law_reads, d_law]
abbrev Ga : Prog := progOf (fun x => fnTab.lookup x) gvs
theorem ok_sign_number : d_sign_number.Ok Ga (fnIn defs) (gbIn gvs) im := ⟨⟨by kernel_rfl, by kernel_rfl, by kernel_rfl, by decide +kernel, by kernel_rfl, by decide +kernel, by decide +kernel⟩, fun _ _ _ _ _ _ us hl => match us, hl with | [_], _ => rfl, by kernel_rfl⟩
theorem ok_sign_of_number : d_sign_of_number.Ok Ga (fnIn defs) (gbIn gvs) im := ⟨⟨by kernel_rfl, by kernel_rfl, by kernel_rfl, by decide +kernel, by kernel_rfl, by decide +kernel, by decide +kernel⟩, fun _ _ _ _ _ _ us hl => match us, hl with | [_], _ => rfl, by kernel_rfl⟩
theorem ok_read_whole : d_read_whole.Ok Ga (fnIn defs) (gbIn gvs) im := ⟨⟨by kernel_rfl, by kernel_rfl, by kernel_rfl, by decide +kernel, by kernel_rfl, by decide +kernel, by decide +kernel⟩, fun _ _ _ _ _ _ us hl => match us, hl with | [_], _ => rfl, by kernel_rfl⟩
theorem ok_show_wholes : d_show_wholes.Ok Ga (fnIn defs) (gbIn gvs) im := ⟨⟨by kernel_rfl, by kernel_rfl, by kernel_rfl, by decide +kernel, by kernel_rfl, by decide +kernel, by decide +kernel⟩, fun _ _ _ _ _ _ us hl => match us, hl with | [_], _ => rfl, by kernel_rfl⟩
theorem ok_read_wholes : d_read_wholes.Ok Ga (fnIn defs) (gbIn gvs) im := ⟨⟨by kernel_rfl, by kernel_rfl, by kernel_rfl, by decide +kernel, by kernel_rfl, by decide +kernel, by decide +kernel⟩, fun _ _ _ _ _ _ us hl => match us, hl with | [_], _ => rfl, by kernel_rfl⟩
theorem ok_show_pairs : d_show_pairs.Ok Ga (fnIn defs) (gbIn gvs) im := ⟨⟨by kernel_rfl, by kernel_rfl, by kernel_rfl, by decide +kernel, by kernel_rfl, by decide +kernel, by decide +kernel⟩, fun _ _ _ _ _ _ us hl => match us, hl with | [_], _ => rfl, by kernel_rfl⟩
theorem ok_read_pair : d_read_pair.Ok Ga (fnIn defs) (gbIn gvs) im := ⟨⟨by kernel_rfl, by kernel_rfl, by kernel_rfl, by decide +kernel, by kernel_rfl, by decide +kernel, by decide +kernel⟩, fun _ _ _ _ _ _ us hl => match us, hl with | [_], _ => rfl, by kernel_rfl⟩
theorem ok_read_pairs : d_read_pairs.Ok Ga (fnIn defs) (gbIn gvs) im := ⟨⟨by kernel_rfl, by kernel_rfl, by kernel_rfl, by decide +kernel, by kernel_rfl, by decide +kernel, by decide +kernel⟩, fun _ _ _ _ _ _ us hl => match us, hl with | [_], _ => rfl, by kernel_rfl⟩
theorem ok_show_text : d_show_text.Ok Ga (fnIn defs) (gbIn gvs) im := ⟨⟨by kernel_rfl, by kernel_rfl, by kernel_rfl, by decide +kernel, by kernel_rfl, by decide +kernel, by decide +kernel⟩, fun _ _ _ _ _ _ us hl => match us, hl with | [_], _ => rfl, by kernel_rfl⟩
theorem ok_read_text : d_read_text.Ok Ga (fnIn defs) (gbIn gvs) im := ⟨⟨by kernel_rfl, by kernel_rfl, by kernel_rfl, by decide +kernel, by kernel_rfl, by decide +kernel, by decide +kernel⟩, fun _ _ _ _ _ _ us hl => match us, hl with | [_], _ => rfl, by kernel_rfl⟩
theorem ok_law_numbers : d_law_numbers.Ok Ga (fnIn defs) (gbIn gvs) im := ⟨⟨by kernel_rfl, by kernel_rfl, by kernel_rfl, by decide +kernel, by kernel_rfl, by decide +kernel, by decide +kernel⟩, fun _ _ _ _ _ _ us hl => match us, hl with | [_, _, _], _ => rfl, by kernel_rfl⟩
theorem ok_law_same : d_law_same.Ok Ga (fnIn defs) (gbIn gvs) im := ⟨⟨by kernel_rfl, by kernel_rfl, by kernel_rfl, by decide +kernel, by kernel_rfl, by decide +kernel, by decide +kernel⟩, fun _ _ _ _ _ _ us hl => match us, hl with | [_, _], _ => rfl, by kernel_rfl⟩
theorem ok_law_signs : d_law_signs.Ok Ga (fnIn defs) (gbIn gvs) im := ⟨⟨by kernel_rfl, by kernel_rfl, by kernel_rfl, by decide +kernel, by kernel_rfl, by decide +kernel, by decide +kernel⟩, fun _ _ _ _ _ _ us hl => match us, hl with | [], _ => rfl, by kernel_rfl⟩
theorem ok_law_hex : d_law_hex.Ok Ga (fnIn defs) (gbIn gvs) im := ⟨⟨by kernel_rfl, by kernel_rfl, by kernel_rfl, by decide +kernel, by kernel_rfl, by decide +kernel, by decide +kernel⟩, fun _ _ _ _ _ _ us hl => match us, hl with | [_], _ => rfl, by kernel_rfl⟩
theorem ok_law_whole : d_law_whole.Ok Ga (fnIn defs) (gbIn gvs) im := ⟨⟨by kernel_rfl, by kernel_rfl, by kernel_rfl, by decide +kernel, by kernel_rfl, by decide +kernel, by decide +kernel⟩, fun _ _ _ _ _ _ us hl => match us, hl with | [_], _ => rfl, by kernel_rfl⟩
theorem ok_law_wholes : d_law_wholes.Ok Ga (fnIn defs) (gbIn gvs) im := ⟨⟨by kernel_rfl, by kernel_rfl, by kernel_rfl, by decide +kernel, by kernel_rfl, by decide +kernel, by decide +kernel⟩, fun _ _ _ _ _ _ us hl => match us, hl with | [_], _ => rfl, by kernel_rfl⟩
theorem ok_law_pairs : d_law_pairs.Ok Ga (fnIn defs) (gbIn gvs) im := ⟨⟨by kernel_rfl, by kernel_rfl, by kernel_rfl, by decide +kernel, by kernel_rfl, by decide +kernel, by decide +kernel⟩, fun _ _ _ _ _ _ us hl => match us, hl with | [_], _ => rfl, by kernel_rfl⟩
theorem ok_law_text : d_law_text.Ok Ga (fnIn defs) (gbIn gvs) im := ⟨⟨by kernel_rfl, by kernel_rfl, by kernel_rfl, by decide +kernel, by kernel_rfl, by decide +kernel, by decide +kernel⟩, fun _ _ _ _ _ _ us hl => match us, hl with | [_], _ => rfl, by kernel_rfl⟩
theorem ok_law_number : d_law_number.Ok Ga (fnIn defs) (gbIn gvs) im := ⟨⟨by kernel_rfl, by kernel_rfl, by kernel_rfl, by decide +kernel, by kernel_rfl, by decide +kernel, by decide +kernel⟩, fun _ _ _ _ _ _ us hl => match us, hl with | [_, _], _ => rfl, by kernel_rfl⟩
theorem ok_law_near : d_law_near.Ok Ga (fnIn defs) (gbIn gvs) im := ⟨⟨by kernel_rfl, by kernel_rfl, by kernel_rfl, by decide +kernel, by kernel_rfl, by decide +kernel, by decide +kernel⟩, fun _ _ _ _ _ _ us hl => match us, hl with | [_, _], _ => rfl, by kernel_rfl⟩
theorem ok_law_reads : d_law_reads.Ok Ga (fnIn defs) (gbIn gvs) im := ⟨⟨by kernel_rfl, by kernel_rfl, by kernel_rfl, by decide +kernel, by kernel_rfl, by decide +kernel, by decide +kernel⟩, fun _ _ _ _ _ _ us hl => match us, hl with | [_], _ => rfl, by kernel_rfl⟩
theorem ok_law : d_law.Ok Ga (fnIn defs) (gbIn gvs) im := ⟨⟨by kernel_rfl, by kernel_rfl, by kernel_rfl, by decide +kernel, by kernel_rfl, by decide +kernel, by decide +kernel⟩, fun _ _ _ _ _ _ us hl => match us, hl with | [_], _ => rfl, by kernel_rfl⟩
theorem oks : ∀ d ∈ defs, d.Ok Ga (fnIn defs) (gbIn gvs) im := by
  intro d hd
  simp only [defs, List.mem_cons, List.not_mem_nil, or_false] at hd
  rcases hd with rfl | rfl | rfl | rfl | rfl | rfl | rfl | rfl | rfl | rfl | rfl | rfl | rfl | rfl | rfl | rfl | rfl | rfl | rfl | rfl | rfl | rfl
  · exact ok_sign_number
  · exact ok_sign_of_number
  · exact ok_read_whole
  · exact ok_show_wholes
  · exact ok_read_wholes
  · exact ok_show_pairs
  · exact ok_read_pair
  · exact ok_read_pairs
  · exact ok_show_text
  · exact ok_read_text
  · exact ok_law_numbers
  · exact ok_law_same
  · exact ok_law_signs
  · exact ok_law_hex
  · exact ok_law_whole
  · exact ok_law_wholes
  · exact ok_law_pairs
  · exact ok_law_text
  · exact ok_law_number
  · exact ok_law_near
  · exact ok_law_reads
  · exact ok_law
end K77

namespace K77
open Cr PySem
abbrev T := List Nat
theorem g_FIG : Ga.gl "FIGURES" = some (.str [48, 49, 50, 51, 52, 53, 54, 55, 56, 57]) := by kernel_rfl
theorem g_MF : Ga.gl "MOST_FIGURES" = some (.int 40) := by kernel_rfl
theorem f_rw : Ga.fn "read_whole" = some b_read_whole := by kernel_rfl
def plain (t : T) : T := if t.take 1 = [45] then t.tail else t
def dig (c : Nat) : Bool := decide (c ∈ [48, 49, 50, 51, 52, 53, 54, 55, 56, 57])
def okL (t : T) : Bool := decide (1 ≤ (plain t).length) && decide ((plain t).length ≤ 40) && (plain t).all dig
def okW (t : T) : Bool := okL t && !(decide ((plain t).head? = some 48) && !decide (t = [48]))
def valW (t : T) : D := if okW t then .int ((intText? ⟨t.toArray⟩).getD 0) else .non
theorem plain_len (t : T) : (plain t).length ≤ t.length := by
  unfold plain
  split
  · simp
  · simp
theorem in_dig (c : Nat) : cmpD .In (.str [c]) (.str [48, 49, 50, 51, 52, 53, 54, 55, 56, 57]) = some (dig c) := rfl
theorem notin_dig (c : Nat) : cmpD .NotIn (.str [c]) (.str [48, 49, 50, 51, 52, 53, 54, 55, 56, 57]) = some (!dig c) := rfl
theorem dig_iff {c : Nat} : dig c = true ↔ 48 ≤ c ∧ c ≤ 57 := by
  unfold dig
  simp
  omega
theorem SX_len (a : T) : (⟨a.toArray⟩ : Str).length = a.length := S_len a
theorem int_of_ok {t : T} (h : okL t = true) : ∃ i, intText? ⟨t.toArray⟩ = some i := by
  unfold okL at h
  simp only [Bool.and_eq_true, decide_eq_true_eq] at h
  obtain ⟨⟨h1, h2⟩, h3⟩ := h
  have hd : NumText.AllDigits (plain t) := fun c hc => dig_iff.mp (List.all_eq_true.mp h3 c hc)
  have hne : plain t ≠ [] := by intro e; rw [e] at h1; simp at h1
  unfold plain at h1 h2 h3 hd hne
  by_cases ht : t.take 1 = [45]
  · rw [if_pos ht] at h1 h2 hd hne
    match t, ht with
    | c :: r, ht =>
      have e : c = 45 := by simpa using ht
      subst e
      exact ⟨_, intText_neg (x := ⟨(45 :: r).toArray⟩) (cs := r) rfl hd hne (by rw [SX_len]; simp at h2 ⊢; omega)⟩
  · rw [if_neg ht] at h1 h2 hd hne
    exact ⟨_, intText_digits (x := ⟨t.toArray⟩) hd hne (by rw [SX_len]; omega)⟩
theorem read_whole_run (n : Nat) (t : T) (h : t.length ≤ 100000) (s : Store) : run Ga (n + 1) "read_whole" [.d (.str t)] s = .ok (.d (valW t)) s := by
  have h1 : fits t.length = true := fits_of (by omega)
  have h2 : fits (plain t).length = true := fits_of (by have := plain_len t; omega)
  rw [run_fn f_rw rfl]
  simp [b_read_whole, slice_strE h1, g_FIG, g_MF]
  rw [show (if List.take 1 t = [45] then List.tail t else t) = plain t from rfl]
  simp [walk_str h2, len_str h2]
  rw [lc_str (fun c => some (.bool (dig c))) (fun c _ => by simp [lcBody_eq, dig]) (by have := plain_len t; omega)]
  have fm : List.filterMap (fun c => some (D.bool (dig c))) (plain t) = (plain t).map fun c => .bool (dig c) := by simp
  rw [fm]
  simp only [pure_bindM, all_bools, lift_some, truth_bool]
  by_cases a1 : 1 ≤ (plain t).length
  · by_cases a2 : (plain t).length ≤ 40
    · obtain ⟨c, r, e⟩ : ∃ c r, plain t = c :: r := by
        cases e : plain t with
        | nil => rw [e] at a1; simp at a1
        | cons c r => exact ⟨c, r, rfl⟩
      have b1 : (1 : Int) ≤ ((plain t).length : Int) := by omega
      have b2 : ¬ (40 : Int) < ((plain t).length : Int) := by omega
      by_cases a3 : (plain t).all dig = true
      · have ok : okL t = true := by simp only [okL, a1, a2, a3, decide_true, Bool.and_self]
        obtain ⟨i, hi⟩ := int_of_ok ok
        have il : t.length ≤ 640 := by
          have : t.length ≤ (plain t).length + 1 := by
            unfold plain
            split <;> simp <;> omega
          omega
        have hb : biD .int [.str t] = some (.int i) := by simp [biD, il, hi]
        rw [if_pos b1, if_neg b2, a3]
        have hx : idxD (.str (c :: r)) (.int 0) = some (.str [c]) := idx_str0 (by rw [← e]; exact h2) rfl
        simp [hx, hb, valW, okW, ok, hi, e]
        by_cases q1 : c = 48
        · by_cases q2 : t = [48]
          · simp [q1, q2]
          · simp [q1, q2]
        · simp [q1]
      · rw [if_pos b1, if_neg b2, Bool.eq_false_iff.mpr a3]
        have ok : okL t = false := by simp [okL, a3]
        simp [valW, okW, ok]
    · have b1 : (1 : Int) ≤ ((plain t).length : Int) := by omega
      have b2 : (40 : Int) < ((plain t).length : Int) := by omega
      rw [if_pos b1, if_pos b2]
      have ok : okL t = false := by simp [okL, a2]
      simp [valW, okW, ok]
  · have b1 : ¬ (1 : Int) ≤ ((plain t).length : Int) := by omega
    rw [if_neg b1]
    have ok : okL t = false := by simp [okL, a1]
    simp [valW, okW, ok]
theorem f_lw : Ga.fn "_law_whole" = some b_law_whole := by kernel_rfl
/-- plain signs -/
def Asc (t : T) : Prop := ∀ c ∈ t, c < 1114112
theorem strs_good {t : T} (h : Asc t) : (t.map fun c => D.str [c]).all (D.good 1) = true := by
  rw [List.all_eq_true]
  intro x hx
  obtain ⟨c, hc, rfl⟩ := List.mem_map.mp hx
  simp [D.good, h c hc]
theorem not_dig (t : T) : (t.filter fun c => !dig c).isEmpty = t.all dig := by
  induction t with
  | nil => rfl
  | cons c t ih =>
    rw [List.filter_cons, List.all_cons, ← ih]
    cases dig c <;> simp
theorem law_whole_rest (run' : Str → List W → M W) (t p : T) (ht : t.length ≤ 100000) (ha : Asc t) (hp : plain t = p) (s : Store) : retR (evSs run' Ga.gl (b_law_whole.body.drop 2) [some (.d (.str t)), some (.d (.str p)), none] s) = .ok (.d (valW t)) s := by
  have h2 : fits p.length = true := fits_of (by have := plain_len t; rw [hp] at this; omega)
  have hpa : Asc p := fun c hc => ha c (by rw [← hp] at hc; unfold plain at hc; split at hc; exact List.mem_of_mem_tail hc; exact hc)
  simp [b_law_whole, walk_str h2, len_str h2]
  rw [lc_str (fun c => if dig c then none else some (.str [c])) (fun c _ => by cases hd : dig c <;> simp [lcBody_eq, -in_sign, -notin_sign, notin_dig, hd]) (by have := plain_len t; rw [hp] at this; omega)]
  have fm : List.filterMap (fun c => if dig c then none else some (D.str [c])) p = (p.filter fun c => !dig c).map fun c => D.str [c] := by
    clear hp h2 hpa
    induction p with
    | nil => rfl
    | cons c p ih => cases hd : dig c <;> simp [hd, ih]
  have hg : ((p.filter fun c => !dig c).map fun c => D.str [c]).all (D.good 1) = true := strs_good fun c hc => hpa c (List.mem_filter.mp hc).1
  rw [fm]
  simp [ne_nilE (by decide) hg]
  by_cases a1 : 1 ≤ p.length
  · have b1 : ¬ ((p.length : Int) < 1) := by omega
    rw [if_neg b1]
    by_cases a2 : p.length ≤ 40
    · have b2 : ¬ (40 : Int) < (p.length : Int) := by omega
      rw [if_neg b2]
      by_cases a3 : p.all dig = true
      · have b3 : ¬ ∃ x, x ∈ p ∧ dig x = false := fun ⟨x, h1, h2⟩ => by
          have := List.all_eq_true.mp a3 x h1
          rw [h2] at this
          cases this
        rw [if_neg b3]
        obtain ⟨c, r, e⟩ : ∃ c r, p = c :: r := by
          cases e : p with
          | nil => rw [e] at a1; simp at a1
          | cons c r => exact ⟨c, r, rfl⟩
        have ok : okL t = true := by simp only [okL, hp, a1, a2, a3, decide_true, Bool.and_self]
        obtain ⟨i, hi⟩ := int_of_ok ok
        have il : t.length ≤ 640 := by
          have : t.length ≤ (plain t).length + 1 := by
            unfold plain
            split <;> simp <;> omega
          rw [hp] at this
          omega
        have hb : biD .int [.str t] = some (.int i) := by simp [biD, il, hi]
        have hx : idxD (.str p) (.int 0) = some (.str [c]) := idx_str0 h2 e
        by_cases q1 : c = 48
        · subst q1
          by_cases q2 : t = [48]
          · have q3 : p = [48] := by rw [← hp, q2]; rfl
            subst q2
            subst q3
            have hl : biD .len [.str [48]] = some (.int 1) := by simpa using len_str (x := [48]) (by decide)
            simp [hx, hl, valW, okW, ok, hi, hb]
          · have q3 : (decide ((1 : Int) < (p.length : Int)) || !decide (t = p)) = true := by
              by_cases q4 : t = p
              · have : r ≠ [] := fun z => q2 (by rw [q4, e, z])
                have : 1 ≤ r.length := by
                  cases r with
                  | nil => exact absurd rfl this
                  | cons _ _ => simp
                rw [e]
                simp
                omega
              · simp [q4]
            simp [hx, len_str h2, valW, okW, ok, hi, q2, hb, hp, -Bool.or_eq_true, q3]
            rw [e]
            simp
        · simp [hx, len_str h2, valW, okW, ok, hi, q1, hb, hp]
          rw [e]
          simp [q1]
      · have b3 : ∃ x, x ∈ p ∧ dig x = false := by
          have : ¬ ∀ x ∈ p, dig x = true := fun z => a3 (List.all_eq_true.mpr z)
          simpa using this
        rw [if_pos b3]
        have ok : okL t = false := by simp [okL, hp, Bool.eq_false_iff.mpr a3]
        simp [valW, okW, ok]
    · have b2 : (40 : Int) < (p.length : Int) := by omega
      rw [if_pos b2]
      have ok : okL t = false := by simp [okL, hp, a2]
      simp [valW, okW, ok]
  · have b1 : ((p.length : Int) < 1) := by omega
    rw [if_pos b1]
    have ok : okL t = false := by simp [okL, hp, a1]
    simp [valW, okW, ok]
theorem law_whole_run (n : Nat) (t : T) (h : t.length ≤ 100000) (ha : Asc t) (s : Store) : run Ga (n + 1) "_law_whole" [.d (.str t)] s = .ok (.d (valW t)) s := by
  have h1 : fits t.length = true := fits_of (by omega)
  rw [run_fn f_lw rfl]
  have e : b_law_whole.body = b_law_whole.body.take 2 ++ b_law_whole.body.drop 2 := rfl
  by_cases ht : t.take 1 = [45]
  · have hp : plain t = t.tail := by simp [plain, ht]
    have q := law_whole_rest (run Ga n) t t.tail h ha hp s
    rw [← q]
    simp [b_law_whole, slice_strE h1, ht]
  · have hp : plain t = t := by simp [plain, ht]
    have q := law_whole_rest (run Ga n) t t h ha hp s
    rw [← q]
    simp [b_law_whole, slice_strE h1, ht]

theorem f_rws : Ga.fn "read_wholes" = some b_read_wholes := by kernel_rfl
theorem f_lws : Ga.fn "_law_wholes" = some b_law_wholes := by kernel_rfl
theorem valW_flat (t : T) : (valW t).flat = true := by
  unfold valW
  split <;> rfl
theorem valW_non (t : T) : eqF (valW t) .non = !okW t := by
  unfold valW
  split
  · rename_i h; rw [h]; rfl
  · rename_i h; rw [Bool.eq_false_iff.mpr h]; rfl
def badW (t : T) : Bool := (splitC [32] t).any fun p => !okW p
def rwL (t : T) : List D := if t = [45] then [] else (splitC [32] t).map valW
def wholesV (t : T) : D := if t ≠ [45] ∧ badW t = true then .non else .list (rwL t)
theorem none_in (t : T) : cmpD .In .non (.list ((splitC [32] t).map valW)) = some (badW t) := by
  rw [in_flat rfl (by rw [List.all_map]; exact List.all_eq_true.mpr fun p _ => valW_flat p) (fun c h => by cases h)]
  unfold badW
  rw [List.any_map]
  congr 2
  funext p
  exact valW_non p
theorem read_wholes_run (n : Nat) (t : T) (h : t.length ≤ 100000) (s : Store) : run Ga (n + 2) "read_wholes" [.d (.str t)] s = .ok (if t ≠ [45] ∧ badW t = true then .d .non else .ref s.length) (s ++ [.list (rwL t)]) := by
  have sp := split_E (c := 32) (t := t) (by decide) (by omega)
  rw [run_fn f_rws rfl]
  simp [b_read_wholes, sp]
  rw [lc_strs valW (fun p hp => by
    have := split_len hp
    simp [lcBody_eq, pcall1 (read_whole_run n p (by omega) [])]) (by have := split_num 32 t; omega)]
  simp [none_in]
  by_cases h1 : t = [45]
  · simp [h1, rwL]
  · by_cases h2 : badW t = true
    · simp [h1, h2, rwL]
    · simp [h1, h2, rwL]
theorem law_wholes_run (n : Nat) (t : T) (h : t.length ≤ 100000) (ha : Asc t) (s : Store) : run Ga (n + 2) "_law_wholes" [.d (.str t)] s = .ok (.d (wholesV t)) s := by
  have sp := split_E (c := 32) (t := t) (by decide) (by omega)
  rw [run_fn f_lws rfl]
  simp [b_law_wholes, sp]
  rw [lc_strs valW (fun p hp => by
    have := split_len hp
    simp [lcBody_eq, pcall1 (law_whole_run n p (by omega) (fun c hc => ha c (split_mem hp c hc)) [])]) (by have := split_num 32 t; omega)]
  simp [none_in]
  by_cases h1 : t = [45]
  · simp [h1, rwL, wholesV]
  · by_cases h2 : badW t = true
    · simp [h1, h2, rwL, wholesV]
    · simp [h1, h2, rwL, wholesV]

theorem f_rp : Ga.fn "read_pair" = some b_read_pair := by kernel_rfl
theorem f_rps : Ga.fn "read_pairs" = some b_read_pairs := by kernel_rfl
theorem f_lps : Ga.fn "_law_pairs" = some b_law_pairs := by kernel_rfl
theorem valW_good (t : T) (n : Nat) : (valW t).good n = true := by
  unfold valW
  split <;> cases n <;> rfl
theorem valW_isNon (t : T) : isNon (valW t) = !okW t := by
  unfold valW
  split
  · rename_i h; rw [h]; rfl
  · rename_i h; rw [Bool.eq_false_iff.mpr h]; rfl
def pairV (p : T) : D := match splitC [44] p with
  | [a, b] => if okW a && okW b then .tup [valW a, valW b] else .non
  | _ => .non
theorem pairV_good (p : T) : (pairV p).good 2 = true := by
  unfold pairV
  split
  · split
    · simp [D.good, valW_good]
    · rfl
  · rfl
theorem idx0L (a : D) (r : List D) : idxD (.list (a :: r)) (.int 0) = some a := idx_listE (j := 0) rfl
theorem idx1L (a b : D) (r : List D) : idxD (.list (a :: b :: r)) (.int 1) = some b := idx_listE (j := 1) rfl
theorem read_pair_run (n : Nat) (t : T) (h : t.length ≤ 100000) (s : Store) : run Ga (n + 2) "read_pair" [.d (.str t)] s = .ok (.d (pairV t)) s := by
  have sp := split_E (c := 44) (t := t) (by decide) (by omega)
  have ln : ∀ p ∈ splitC [44] t, p.length ≤ 100000 := fun p hp => by have := split_len hp; omega
  rw [run_fn f_rp rfl]
  simp [b_read_pair, sp]
  unfold pairV
  match hs : splitC [44] t with
  | [] => simp
  | [a] => simp
  | a :: b :: c :: r =>
    have : ¬ ((r.length : Int) + 1 + 1 + 1 = 2) := by omega
    simp [this]
  | [a, b] =>
    have ra := pcall1 (read_whole_run n a (ln a (by simp [hs])) [])
    have rb := pcall1 (read_whole_run n b (ln b (by simp [hs])) [])
    have nt : cmpD .In .non (.tup [valW a, valW b]) = some ([valW a, valW b].any isNon) := none_inT (n := 1) (by decide) (by simp [valW_good])
    simp [idx0L, idx1L, ra, rb, nt, valW_isNon]
    cases okW a <;> cases okW b <;> simp
def badP (t : T) : Bool := (splitC [32] t).any fun p => isNon (pairV p)
def rpL (t : T) : List D := if t = [45] then [] else (splitC [32] t).map pairV
def pairsV (t : T) : D := if t ≠ [45] ∧ badP t = true then .non else .list (rpL t)
theorem none_inP (t : T) : cmpD .In .non (.list ((splitC [32] t).map pairV)) = some (badP t) := by
  rw [none_inL (n := 2) (by decide) (by rw [List.all_map]; exact List.all_eq_true.mpr fun p _ => pairV_good p)]
  unfold badP
  rw [List.any_map]
  rfl
theorem read_pairs_run (n : Nat) (t : T) (h : t.length ≤ 100000) (s : Store) : run Ga (n + 3) "read_pairs" [.d (.str t)] s = .ok (.d (pairsV t)) s := by
  have sp := split_E (c := 32) (t := t) (by decide) (by omega)
  rw [run_fn f_rps rfl]
  simp [b_read_pairs, sp]
  rw [lc_strs pairV (fun p hp => by
    have := split_len hp
    simp [lcBody_eq, pcall1 (read_pair_run n p (by omega) [])]) (by have := split_num 32 t; omega)]
  simp [none_inP]
  by_cases h1 : t = [45]
  · simp [h1, rpL, pairsV]
  · by_cases h2 : badP t = true
    · simp [h1, h2, rpL, pairsV]
    · simp [h1, h2, rpL, pairsV]
/-- the loop of the law -/
def lpBody : List S := match b_law_pairs.body with
  | [_, _, .for _ _ b, _] => b
  | _ => []
theorem lp_step (n : Nat) (t p : T) (x y z : Option W) (acc : List D) (h : p.length ≤ 100000) (ha : Asc p) (hl : acc.length < 16777216) :
    ∃ y' z', forBody (.name 2) (evSs (run Ga (n + 1)) Ga.gl lpBody) (.str p) [some (.d (.str t)), some (.ref 0), x, y, z] [.list acc] =
      if isNon (pairV p) then .ok (.ret (.d .non)) [some (.d (.str t)), some (.ref 0), some (.d (.str p)), y', z'] [.list acc] else .ok .next [some (.d (.str t)), some (.ref 0), some (.d (.str p)), y', z'] [.list (acc ++ [pairV p])] := by
  have sp := split_E (c := 44) (t := p) (by decide) (by omega)
  have ln : ∀ q ∈ splitC [44] p, q.length ≤ 100000 ∧ Asc q := fun q hq => ⟨by have := split_len hq; omega, fun c hc => ha c (split_mem hq c hc)⟩
  refine ⟨some (.d (.list ((splitC [44] p).map valW))), z, ?_⟩
  unfold forBody
  simp only [bindPt_name, setVar_s, setVar_0]
  simp [lpBody, b_law_pairs, sp]
  rw [lc_strs valW (fun q hq => by
    simp [lcBody_eq, pcall1 (law_whole_run n q (ln q hq).1 (ln q hq).2 [])]) (by have := split_num 44 p; omega)]
  have nin : cmpD .In .non (.list ((splitC [44] p).map valW)) = some (((splitC [44] p).map valW).any isNon) := none_inL (n := 1) (by decide) (by rw [List.all_map]; exact List.all_eq_true.mpr fun q _ => valW_good q 1)
  simp [nin]
  unfold pairV
  match hs : splitC [44] p with
  | [] => simp [isNon]
  | [a] => simp [isNon]
  | a :: b :: c :: r =>
    have : ¬ ((r.length : Int) + 1 + 1 + 1 = 2) := by omega
    simp [this, isNon]
  | [a, b] =>
    simp [idx0L, idx1L, valW_isNon]
    cases okW a <;> cases okW b <;> simp [isNon, hl]
theorem lp_loop (n : Nat) (t : T) : ∀ (ps : List T) (x y z : Option W) (acc : List D), (∀ p ∈ ps, p.length ≤ 100000 ∧ Asc p) → acc.length + ps.length ≤ 16777216 →
    ∃ x' y' z' acc', forLoop (forBody (.name 2) (evSs (run Ga (n + 1)) Ga.gl lpBody)) (ps.map .str) [some (.d (.str t)), some (.ref 0), x, y, z] [.list acc] =
      if ps.any (fun p => isNon (pairV p)) then .ok (.ret (.d .non)) [some (.d (.str t)), some (.ref 0), x', y', z'] [.list acc'] else .ok .next [some (.d (.str t)), some (.ref 0), x', y', z'] [.list (acc ++ ps.map pairV)]
  | [], x, y, z, acc, _, _ => ⟨x, y, z, acc, by simp [forLoop]⟩
  | p :: ps, x, y, z, acc, h, hl => by
    have hl : acc.length + (ps.length + 1) ≤ 16777216 := hl
    obtain ⟨y1, z1, e⟩ := lp_step n t p x y z acc (h p (by simp)).1 (h p (by simp)).2 (by omega)
    by_cases hb : isNon (pairV p) = true
    · refine ⟨some (.d (.str p)), y1, z1, acc, ?_⟩
      rw [List.map_cons, forLoop, e]
      simp [hb]
    · obtain ⟨x2, y2, z2, a2, e2⟩ := lp_loop n t ps (some (.d (.str p))) y1 z1 (acc ++ [pairV p]) (fun q hq => h q (by simp [hq])) (by simp; omega)
      refine ⟨x2, y2, z2, a2, ?_⟩
      have hb' : isNon (pairV p) = false := Bool.eq_false_iff.mpr hb
      rw [if_neg hb] at e
      rw [List.map_cons, forLoop, e]
      show forLoop _ _ _ _ = _
      rw [e2]
      simp [hb']
theorem law_pairs_run (n : Nat) (t : T) (h : t.length ≤ 100000) (ha : Asc t) : pcall (run Ga (n + 2)) "_law_pairs" [.d (.str t)] = M.pure (pairsV t) := by
  have sp := split_E (c := 32) (t := t) (by decide) (by omega)
  by_cases h1 : t = [45]
  · refine pcall_ds (xs := [.str t]) (w := .d (.list [])) (y := pairsV t) (st := []) (st' := []) ?_ (by simp [pairsV, h1, rpL])
    show run Ga (n + 2) "_law_pairs" [.d (.str t)] [] = _
    rw [run_fn f_lps rfl]
    simp [b_law_pairs, h1]
  · obtain ⟨x', y', z', acc', e⟩ := lp_loop n t (splitC [32] t) none none none [] (fun p hp => ⟨by have := split_len hp; omega, fun c hc => ha c (split_mem hp c hc)⟩) (by have := split_num 32 t; simp; omega)
    have e0 : run Ga (n + 2) "_law_pairs" [.d (.str t)] [] = if badP t then .ok (.d .non) [.list acc'] else .ok (.ref 0) [.list ((splitC [32] t).map pairV)] := by
      rw [run_fn f_lps rfl]
      have e : forLoop (forBody (Pt.name 2) (evSs (run Ga (n + 1)) Ga.gl lpBody)) (List.map D.str (splitC [32] t)) [some (W.d (D.str t)), some (W.ref 0), none, none, none] [Cell.list []] = _ := e
      simp [b_law_pairs, h1, sp]
      have e3 := e
      simp only [lpBody, b_law_pairs] at e3
      rw [e3]
      unfold badP
      by_cases h2 : ((splitC [32] t).any fun p => isNon (pairV p)) = true
      · simp [h2]
      · simp [h2]
    by_cases h2 : badP t = true
    · rw [if_pos h2] at e0
      exact pcall_ds (xs := [.str t]) e0 (by simp [pairsV, h1, h2]; rfl)
    · rw [if_neg h2] at e0
      refine pcall_ds (xs := [.str t]) (st' := [.frz (.list ((splitC [32] t).map pairV))]) e0 ?_
      rw [freeze_ref (xs := (splitC [32] t).map pairV) rfl]
      simp [pairsV, h1, h2, rpL]

def SG : T := [10, 32, 33, 34, 35, 36, 38, 39, 40, 41, 42, 43, 44, 45, 46, 47, 48, 49, 50, 51, 52, 53, 54, 55, 56, 57, 58, 59, 60, 61, 62, 63, 64, 65, 66, 67, 68, 69, 70, 71, 72, 73, 74, 75, 76, 77, 78, 79, 80, 81, 82, 83, 84, 85, 86, 87, 88, 89, 90, 91, 92, 93, 94, 95, 96, 97, 98, 99, 100, 101, 102, 103, 104, 105, 106, 107, 108, 109, 110, 111, 112, 113, 114, 115, 116, 117, 118, 119, 120, 121, 122, 123, 124, 125, 126]
def HX : T := [48, 49, 50, 51, 52, 53, 54, 55, 56, 57, 97, 98, 99, 100, 101, 102]
theorem g_SIGNS : Ga.gl "SIGNS" = some (.str SG) := by kernel_rfl
theorem g_HEX : Ga.gl "HEX" = some (.str HX) := by kernel_rfl
theorem f_sn : Ga.fn "sign_number" = some b_sign_number := by kernel_rfl
theorem f_son : Ga.fn "sign_of_number" = some b_sign_of_number := by kernel_rfl
theorem f_st : Ga.fn "show_text" = some b_show_text := by kernel_rfl
theorem f_rt : Ga.fn "read_text" = some b_read_text := by kernel_rfl
theorem f_lh : Ga.fn "_law_hex" = some b_law_hex := by kernel_rfl
theorem f_lt : Ga.fn "_law_text" = some b_law_text := by kernel_rfl
theorem f_ls : Ga.fn "_law_signs" = some b_law_signs := by kernel_rfl
theorem SG_len : SG.length = 95 := by decide
theorem HX_len : HX.length = 16 := by decide
theorem SG_fits : fits SG.length = true := by decide
theorem HX_fits : fits HX.length = true := by decide
theorem idx_SG {c : Nat} (h : c ∈ SG) : SG.idxOf c < 95 := by
  have := List.idxOf_lt_length_iff.mpr h
  rwa [SG_len] at this
theorem sign_number_run (n : Nat) (c : Nat) (h : c ∈ SG) (s : Store) : run Ga (n + 1) "sign_number" [.d (.str [c])] s = .ok (.d (.int (SG.idxOf c))) s := by
  rw [run_fn f_sn rfl]
  simp [b_sign_number, g_SIGNS, index_E h]
theorem law_signs_run (n : Nat) (s : Store) : run Ga (n + 1) "_law_signs" [] s = .ok (.d (.str SG)) s := by
  rw [run_fn f_ls rfl]
  have e : (D.str [10, 32, 33, 34, 35, 36, 38, 39, 40, 41, 42, 43, 44, 45, 46, 47, 48, 49, 50, 51, 52, 53, 54, 55, 56, 57, 58, 59, 60, 61, 62, 63, 64, 65, 66, 67, 68, 69, 70, 71, 72, 73, 74, 75, 76, 77, 78, 79, 80, 81, 82, 83, 84, 85, 86, 87, 88, 89, 90, 91, 92, 93, 94, 95, 96, 97, 98, 99, 100, 101, 102, 103, 104, 105, 106, 107, 108, 109, 110, 111, 112, 113, 114, 115, 116, 117, 118, 119, 120, 121, 122, 123, 124, 125, 126]) = .str SG := rfl
  simp only [b_law_signs, e]
  simp
def sgn (k : Nat) : Nat := SG.getD k 0
def hx (k : Nat) : Nat := HX.getD k 0
theorem idx_sgn {k : Nat} (h : k < 95) : idxD (.str SG) (.int (k : Int)) = some (.str [sgn k]) := idx_strE SG_fits (by
  have : k < SG.length := by rw [SG_len]; exact h
  unfold sgn
  rw [List.getD_eq_getElem?_getD, List.getElem?_eq_getElem this]
  rfl)
theorem idx_hx {k : Nat} (h : k < 16) : idxD (.str HX) (.int (k : Int)) = some (.str [hx k]) := idx_strE HX_fits (by
  have : k < HX.length := by rw [HX_len]; exact h
  unfold hx
  rw [List.getD_eq_getElem?_getD, List.getElem?_eq_getElem this]
  rfl)
theorem idx_hxd {k : Nat} (h : k < 256) : idxD (.str HX) (.int ((k : Int) / 16)) = some (.str [hx (k / 16)]) := idx_hx (k := k / 16) (by omega)
theorem idx_hxm {k : Nat} : idxD (.str HX) (.int ((k : Int) % 16)) = some (.str [hx (k % 16)]) := idx_hx (k := k % 16) (by omega)
def sonV (k : Nat) : D := if k < 95 then .str [sgn k] else .non
theorem sign_of_number_run (n : Nat) (k : Nat) (s : Store) : run Ga (n + 1) "sign_of_number" [.d (.int (k : Int))] s = .ok (.d (sonV k)) s := by
  rw [run_fn f_son rfl]
  have hl : biD .len [.str SG] = some (.int 95) := by simpa [SG_len] using len_str SG_fits
  have h0 : (0 : Int) ≤ (k : Int) := by omega
  by_cases h : k < 95
  · have h1 : (k : Int) < 95 := by omega
    simp [b_sign_of_number, g_SIGNS, hl, h0, h1, idx_sgn h, sonV, h]
  · have h1 : ¬ (k : Int) < 95 := by omega
    simp [b_sign_of_number, g_SIGNS, hl, h0, h1, sonV, h]
def hexP (k : Nat) : T := [hx (k / 16), hx (k % 16)]
def hexT (t : T) : T := (t.map fun c => hexP (SG.idxOf c)).flatten
def showT (t : T) : T := if t = [] then [45] else hexT t
theorem div16 (k : Nat) : binD .FloorDiv (.int (k : Int)) (.int 16) = some (.int ((k / 16 : Nat) : Int)) := by
  rw [div_int' (by decide) (by decide)]
  rfl
theorem mod16 (k : Nat) : binD .Mod (.int (k : Int)) (.int 16) = some (.int ((k % 16 : Nat) : Int)) := by
  rw [mod_int' (by decide)]
  rfl
theorem hexT_len (t : T) : (hexT t).length = 2 * t.length := by
  unfold hexT
  induction t with
  | nil => rfl
  | cons c t ih => simp [hexP] at ih ⊢; omega
theorem hexT_nil {t : T} : hexT t = [] ↔ t = [] := by
  constructor
  · intro h
    have := hexT_len t
    rw [h] at this
    exact List.length_eq_zero_iff.mp (by simp at this; omega)
  · rintro rfl
    rfl
theorem show_text_run (n : Nat) (t : T) (h : t.length ≤ 100000) (hs : ∀ c ∈ t, c ∈ SG) (s : Store) : run Ga (n + 2) "show_text" [.d (.str t)] s = .ok (.d (.str (showT t))) s := by
  have h1 : fits t.length = true := fits_of (by omega)
  rw [run_fn f_st rfl]
  simp [b_show_text, walk_str h1]
  rw [lc_g (fun c => .str [c]) (fun c => .int (SG.idxOf c)) (fun c hc => by simp [lcBody_eq, pcall1 (sign_number_run n c (hs c hc) [])]) (by omega)]
  simp [g_HEX]
  rw [lc_g (fun c => D.int (SG.idxOf c)) (fun c => .str (hexP (SG.idxOf c))) (fun c hc => by
    have q := idx_SG (hs c hc)
    simp [lcBody_eq, div16, mod16, idx_hxd (k := SG.idxOf c) (by omega), idx_hxm, add_str, hexP]) (by omega)]
  have je : mtD .join (.str []) [.list (t.map fun c => .str (hexP (SG.idxOf c)))] = some (.str (hexT t)) := by
    have := join_E (sep := []) (ps := t.map fun c => hexP (SG.idxOf c)) (by
      have e : ((t.map fun c => hexP (SG.idxOf c)).map (·.length)).sum = 2 * t.length := by
        have := hexT_len t
        unfold hexT at this
        rw [List.length_flatten] at this
        exact this
      rw [e]
      simp
      omega)
    rw [joinC_nil, List.map_map] at this
    exact this
  have tr : truth (.str (hexT t)) = some (!(hexT t).isEmpty) := truth_str (fits_of (by rw [hexT_len]; omega))
  simp [je, tr]
  unfold showT
  by_cases e : t = []
  · subst e
    rfl
  · have e2 : hexT t ≠ [] := fun z => e (hexT_nil.mp z)
    simp [e, e2]

theorem range2 {L : Nat} (h : L ≤ 1000000) (he : L % 2 = 0) : rangeD [.int 0, .int (L : Int), .int 2] = some ((List.range (L / 2)).map fun (k : Nat) => .int ((2 * k : Nat) : Int)) := by
  have e : Builtin.Range.rangeSize 0 (L : Int) 2 = ((L / 2 : Nat) : Int) := by
    unfold Builtin.Range.rangeSize
    rw [if_pos (by decide)]
    split
    · omega
    · omega
  have e2 : rangeN 0 (L : Int) 2 = L / 2 := by
    unfold rangeN
    rw [e]
    rfl
  have f : ∀ i : Int, 0 ≤ i → i ≤ 1000001 → Builtin.Range.rangeFitsLong i = true := fun i h1 h2 => by
    unfold Builtin.Range.rangeFitsLong
    simp
    omega
  have sm : Builtin.Range.small 0 (L : Int) 2 = true := by
    unfold Builtin.Range.small
    rw [e, f 0 (by omega) (by omega), f (L : Int) (by omega) (by omega), f 2 (by omega) (by omega), f ((L / 2 : Nat) : Int) (by omega) (by omega), f ((L : Int) + (2 - 1)) (by omega) (by omega)]
    simp
  have d : decide ((0 : Int) ≤ ((L / 2 : Nat) : Int)) = true := decide_eq_true (by omega)
  have c : (decide ((2 : Int) ≠ 0) && decide ((2 : Int).natAbs < 1073741824) && Builtin.Range.small 0 (L : Int) 2 && decide (0 ≤ Builtin.Range.rangeSize 0 (L : Int) 2)) = true := by
    rw [sm, e, d]
    decide
  rw [range3 c]
  unfold rangeC
  rw [e2]
  exact congrArg some (List.map_congr_left fun k _ => congrArg D.int (by omega))
def hexIn (t : T) : Bool := t.all fun c => decide (c ∈ HX)
/-- the k-th number told -/
def vK (t : T) (k : Nat) : Nat := 16 * HX.idxOf (t.getD (2 * k) 0) + HX.idxOf (t.getD (2 * k + 1) 0)
def okX (t : T) : Bool := decide (t.length % 2 = 0) && !t.isEmpty && hexIn t
def badX (t : T) : Bool := (List.range (t.length / 2)).any fun k => !decide (vK t k < 95)
def textV (t : T) : D := if t = [45] then .str [] else if okX t then (if badX t then .non else .str ((List.range (t.length / 2)).map fun k => sgn (vK t k))) else .non
theorem idx_t {t : T} (h : t.length ≤ 100000) {k : Nat} (hk : k < t.length) : idxD (.str t) (.int (k : Int)) = some (.str [t.getD k 0]) := idx_strE (fits_of (by omega)) (by
  rw [List.getD_eq_getElem?_getD, List.getElem?_eq_getElem hk]
  rfl)
theorem hex_at {t : T} (h : hexIn t = true) {k : Nat} (hk : k < t.length) : t.getD k 0 ∈ HX := by
  have : t.getD k 0 ∈ t := by
    rw [List.getD_eq_getElem?_getD, List.getElem?_eq_getElem hk]
    exact List.getElem_mem hk
  exact of_decide_eq_true (List.all_eq_true.mp h _ this)
theorem in_hex (c : Nat) : cmpD .In (.str [c]) (.str HX) = some (decide (c ∈ HX)) := rfl
theorem sonV_good (k : Nat) : (sonV k).good 1 = true := by
  unfold sonV
  split
  · rename_i h
    have : ∀ k, k < 95 → sgn k < 1114112 := by decide +kernel
    simp [D.good, this k h]
  · rfl
theorem sonV_non (k : Nat) : isNon (sonV k) = !decide (k < 95) := by
  unfold sonV
  split
  · rename_i h; simp [h, isNon]
  · rename_i h; simp [h, isNon]
theorem mul16 (k : Nat) : binD .Mult (.int 16) (.int (k : Int)) = some (.int (16 * (k : Int))) := mul_int' (by
  have : small64 16 = true := by decide
  simp [mulOk, this])
theorem mod2 (k : Nat) : binD .Mod (.int (k : Int)) (.int 2) = some (.int ((k : Int) % 2)) := mod_int' (by decide)
end K77

namespace K77
open Cr PySem
theorem sum_ones : ∀ l : List Nat, (l.map fun _ => 1).sum = l.length
  | [] => rfl
  | _ :: l => by
    rw [List.map_cons, List.sum_cons, sum_ones l, List.length_cons]
    omega
theorem read_text_run (n : Nat) (t : T) (h : t.length ≤ 100000) (s : Store) : run Ga (n + 2) "read_text" [.d (.str t)] s = .ok (.d (textV t)) s := by
  have h1 : fits t.length = true := fits_of (by omega)
  rw [run_fn f_rt rfl]
  by_cases h0 : t = [45]
  · subst h0
    simp [b_read_text, textV]
  · simp [b_read_text, h0, g_HEX, len_str h1, mod2, truth_str h1, walk_str h1]
    by_cases he : t.length % 2 = 0
    · have he1 : ¬ ((t.length : Int) % 2 = 1) := by omega
      by_cases hne : t = []
      · subst hne
        simp [textV, okX]
      · rw [lc_str (fun c => some (.bool (decide (c ∈ HX)))) (fun c _ => by simp [lcBody_eq, -in_sign, in_hex]) (by omega)]
        have ab : biD .all [.list (t.map fun c => .bool (decide (c ∈ HX)))] = some (.bool (hexIn t)) := all_bools _ _
        have fm : List.filterMap (fun c => some (D.bool (decide (c ∈ HX)))) t = t.map fun c => .bool (decide (c ∈ HX)) := by simp
        rw [fm]
        simp only [pure_bindM, ab, lift_some, truth_bool]
        have hemp : t.isEmpty = false := by
          cases t with
          | nil => exact absurd rfl hne
          | cons _ _ => rfl
        by_cases hh : hexIn t = true
        · have ok : okX t = true := by simp [okX, he, hh, hne]
          simp [he1, hne, hh, range2 (L := t.length) (by omega) he, len_str h1, g_HEX]
          rw [lc_g (fun (k : Nat) => D.int (2 * (k : Int))) (fun (k : Nat) => D.int ((vK t k : Nat) : Int)) (fun k hk => by
            have hk : k < t.length / 2 := List.mem_range.mp hk
            have a1 : idxD (.str t) (.int (2 * (k : Int))) = some (.str [t.getD (2 * k) 0]) := idx_t h (k := 2 * k) (by omega)
            have a2 : idxD (.str t) (.int (2 * (k : Int) + 1)) = some (.str [t.getD (2 * k + 1) 0]) := idx_t h (k := 2 * k + 1) (by omega)
            simp [lcBody_eq, a1, a2, index_E (hex_at hh (k := 2 * k) (by omega)), index_E (hex_at hh (k := 2 * k + 1) (by omega)), mul16, vK, -List.getD_eq_getElem?_getD]) (by simp; omega)]
          simp
          rw [lc_g (fun (k : Nat) => D.int ((vK t k : Nat) : Int)) (fun (k : Nat) => sonV (vK t k)) (fun k hk => by simp [lcBody_eq, pcall1 (sign_of_number_run n (vK t k) [])]) (by simp; omega)]
          have nin : cmpD .In .non (.list ((List.range (t.length / 2)).map fun k => sonV (vK t k))) = some (badX t) := by
            rw [none_inL (n := 1) (by decide) (by rw [List.all_map]; exact List.all_eq_true.mpr fun k _ => sonV_good _), List.any_map]
            unfold badX
            congr 2
            funext k
            exact sonV_non _
          simp [nin]
          cases hb : badX t with
          | true => simp [textV, h0, ok, hb]
          | false =>
            have e : (List.range (t.length / 2)).map (fun k => sonV (vK t k)) = ((List.range (t.length / 2)).map fun k => [sgn (vK t k)]).map .str := by
              rw [List.map_map]
              refine List.map_congr_left fun k hk => ?_
              have : ¬ ((!decide (vK t k < 95)) = true) := fun z => by
                have : badX t = true := List.any_eq_true.mpr ⟨k, hk, z⟩
                rw [hb] at this
                cases this
              have : vK t k < 95 := by simpa using this
              simp [sonV, this]
            have je := join_E (sep := []) (ps := (List.range (t.length / 2)).map fun k => [sgn (vK t k)]) (by
              rw [List.map_map]
              have e1 : ((List.range (t.length / 2)).map (List.length ∘ fun k => [sgn (vK t k)])).sum = t.length / 2 := by
                have : (List.length ∘ fun k => [sgn (vK t k)]) = fun (_ : Nat) => 1 := rfl
                rw [this, sum_ones, List.length_range]
              rw [e1]
              simp only [List.length_nil, Nat.mul_zero]
              omega)
            rw [joinC_nil] at je
            have fl : ((List.range (t.length / 2)).map fun k => [sgn (vK t k)]).flatten = (List.range (t.length / 2)).map fun k => sgn (vK t k) := by
              induction List.range (t.length / 2) with
              | nil => rfl
              | cons k r ih => simp [ih]
            rw [fl] at je
            rw [e]
            simp [-List.map_map, je, textV, h0, ok, hb]
        · have ok : okX t = false := by simp [okX, hh]
          simp [he1, hne, hh, textV, ok, h0]
    · have he1 : (t.length : Int) % 2 = 1 := by omega
      have ok : okX t = false := by simp [okX, he]
      simp [he1, textV, ok, h0]

theorem find_hex {c : Nat} (h : c ∈ HX) : mtD .find (.str HX) [.str [c]] = some (.int (HX.idxOf c)) := find_E h
def lhBody : List S := match b_law_hex.body with
  | [_, _, .for _ _ b, _] => b
  | _ => []
theorem HXc : (D.str [48, 49, 50, 51, 52, 53, 54, 55, 56, 57, 97, 98, 99, 100, 101, 102]) = .str HX := rfl
theorem lh_loop (n : Nat) (t0 : T) : ∀ (t : T) (acc : T) (y z : Option W) (s : Store), (∀ c ∈ t, c ∈ SG) → acc.length + 2 * t.length ≤ 16777216 →
    ∃ y' z', forLoop (forBody (.name 3) (evSs (run Ga n) Ga.gl lhBody)) (t.map fun c => .str [c]) [some (.d (.str t0)), some (.d (.str SG)), some (.d (.str acc)), y, z] s =
      .ok .next [some (.d (.str t0)), some (.d (.str SG)), some (.d (.str (acc ++ hexT t))), y', z'] s
  | [], acc, y, z, s, _, _ => ⟨y, z, by simp [forLoop, hexT]⟩
  | c :: t, acc, y, z, s, h, hl => by
    have hl : acc.length + 2 * (t.length + 1) ≤ 16777216 := hl
    have hc := h c (by simp)
    have q := idx_SG hc
    have e : forBody (.name 3) (evSs (run Ga n) Ga.gl lhBody) (.str [c]) [some (.d (.str t0)), some (.d (.str SG)), some (.d (.str acc)), y, z] s =
        .ok .next [some (.d (.str t0)), some (.d (.str SG)), some (.d (.str (acc ++ hexP (SG.idxOf c)))), some (.d (.str [c])), some (.d (.int (SG.idxOf c)))] s := by
      unfold forBody
      simp only [bindPt_name, setVar_s, setVar_0]
      have a1 : binD .Add (.str acc) (.str [hx (SG.idxOf c / 16)]) = some (.str (acc ++ [hx (SG.idxOf c / 16)])) := add_str (by simp; omega)
      have a2 : binD .Add (.str (acc ++ [hx (SG.idxOf c / 16)])) (.str [hx (SG.idxOf c % 16)]) = some (.str (acc ++ [hx (SG.idxOf c / 16)] ++ [hx (SG.idxOf c % 16)])) := add_str (by simp; omega)
      simp only [lhBody, b_law_hex, HXc]
      simp [find_E hc, div16, mod16, idx_hxd (k := SG.idxOf c) (by omega), idx_hxm, a1, a2, hexP, -List.append_assoc]
      rw [List.append_assoc]
      rfl
    obtain ⟨y', z', e2⟩ := lh_loop n t0 t (acc ++ hexP (SG.idxOf c)) (some (.d (.str [c]))) (some (.d (.int (SG.idxOf c)))) s (fun d hd => h d (by simp [hd])) (by simp [hexP]; omega)
    refine ⟨y', z', ?_⟩
    rw [List.map_cons, forLoop, e]
    show forLoop _ _ _ _ = _
    rw [e2, List.append_assoc]
    rfl
theorem law_hex_run (n : Nat) (t : T) (h : t.length ≤ 100000) (hs : ∀ c ∈ t, c ∈ SG) (s : Store) : run Ga (n + 2) "_law_hex" [.d (.str t)] s = .ok (.d (.str (showT t))) s := by
  have h1 : fits t.length = true := fits_of (by omega)
  obtain ⟨y', z', e⟩ := lh_loop (n + 1) t t [] none none s hs (by simp; omega)
  rw [run_fn f_lh rfl]
  simp only [lhBody, b_law_hex] at e
  simp [b_law_hex, pcall0 (law_signs_run n []), walk_str h1]
  rw [e]
  have bb : ∀ b : Bool, biD .int [.bool b] = some (.int (if b then 1 else 0)) := fun b => rfl
  simp [bb]
  unfold showT
  by_cases h0 : t = []
  · simp [h0, idx1L]
  · simp [h0, idx0L]
end K77

namespace K77
open Cr PySem
def ltBody : List S := match b_law_text.body with
  | [_, _, _, .for _ _ b, _] => b
  | _ => []
theorem notin_hex (c : Nat) : cmpD .NotIn (.str [c]) (.str HX) = some (!decide (c ∈ HX)) := (rfl)
theorem lt_loop (n : Nat) (t : T) (h : t.length ≤ 100000) (hh : hexIn t = true) : ∀ (ks : List Nat) (acc : T) (x y z : Option W) (s : Store), (∀ k ∈ ks, 2 * k + 1 < t.length) → acc.length + ks.length ≤ 16777216 →
    ∃ acc' x' y', forLoop (forBody (.name 2) (evSs (run Ga (n + 1)) Ga.gl ltBody)) (ks.map fun (k : Nat) => .int ((2 * k : Nat) : Int)) [some (.d (.str t)), some (.d (.str acc)), x, y, z] s =
      if ks.any (fun k => !decide (vK t k < 95)) then .ok (.ret (.d .non)) [some (.d (.str t)), some (.d (.str acc')), x', y', z] s else .ok .next [some (.d (.str t)), some (.d (.str (acc ++ ks.map fun k => sgn (vK t k)))), x', y', z] s
  | [], acc, x, y, z, s, _, _ => ⟨acc, x, y, by simp [forLoop]⟩
  | k :: ks, acc, x, y, z, s, hk, hl => by
    have hl : acc.length + (ks.length + 1) ≤ 16777216 := hl
    have hk0 := hk k (by simp)
    have a1 : idxD (.str t) (.int (2 * (k : Int))) = some (.str [t.getD (2 * k) 0]) := idx_t h (k := 2 * k) (by omega)
    have a2 : idxD (.str t) (.int (2 * (k : Int) + 1)) = some (.str [t.getD (2 * k + 1) 0]) := idx_t h (k := 2 * k + 1) (by omega)
    have m1 := find_E (hex_at hh (k := 2 * k) (by omega))
    have m2 := find_E (hex_at hh (k := 2 * k + 1) (by omega))
    have ev : (16 : Int) * (HX.idxOf (t.getD (2 * k) 0) : Int) + (HX.idxOf (t.getD (2 * k + 1) 0) : Int) = ((vK t k : Nat) : Int) := by
      unfold vK
      omega
    have e : forBody (.name 2) (evSs (run Ga (n + 1)) Ga.gl ltBody) (.int ((2 * k : Nat) : Int)) [some (.d (.str t)), some (.d (.str acc)), x, y, z] s =
        if vK t k < 95 then .ok .next [some (.d (.str t)), some (.d (.str (acc ++ [sgn (vK t k)]))), some (.d (.int ((2 * k : Nat) : Int))), some (.d (.int ((vK t k : Nat) : Int))), z] s
        else .ok (.ret (.d .non)) [some (.d (.str t)), some (.d (.str acc)), some (.d (.int ((2 * k : Nat) : Int))), some (.d (.int ((vK t k : Nat) : Int))), z] s := by
      unfold forBody
      simp only [bindPt_name, setVar_s, setVar_0]
      have e2 : ((2 * k : Nat) : Int) = 2 * (k : Int) := by omega
      rw [e2]
      simp only [ltBody, b_law_text, HXc]
      simp [a1, a2, m1, m2, mul16, ev, pcall0 (law_signs_run n []), -List.getD_eq_getElem?_getD]
      by_cases h95 : vK t k < 95
      · have : ¬ (94 : Int) < ((vK t k : Nat) : Int) := by omega
        have a3 : binD .Add (.str acc) (.str [sgn (vK t k)]) = some (.str (acc ++ [sgn (vK t k)])) := add_str (by simp; omega)
        simp [h95, this, idx_sgn h95, a3]
      · have : (94 : Int) < ((vK t k : Nat) : Int) := by omega
        simp [h95, this]
    by_cases h95 : vK t k < 95
    · rw [if_pos h95] at e
      obtain ⟨acc', x', y', e2⟩ := lt_loop n t h hh ks (acc ++ [sgn (vK t k)]) (some (.d (.int ((2 * k : Nat) : Int)))) (some (.d (.int ((vK t k : Nat) : Int)))) z s (fun j hj => hk j (by simp [hj])) (by simp; omega)
      refine ⟨acc', x', y', ?_⟩
      rw [List.map_cons, forLoop, e]
      show forLoop _ _ _ _ = _
      rw [e2]
      simp [h95]
    · rw [if_neg h95] at e
      refine ⟨acc, some (.d (.int ((2 * k : Nat) : Int))), some (.d (.int ((vK t k : Nat) : Int))), ?_⟩
      rw [List.map_cons, forLoop, e]
      simp [h95]
theorem not_hex (t : T) : (t.filter fun c => !decide (c ∈ HX)).isEmpty = hexIn t := by
  unfold hexIn
  induction t with
  | nil => rfl
  | cons c t ih =>
    rw [List.filter_cons, List.all_cons, ← ih]
    cases decide (c ∈ HX) <;> simp
theorem law_text_run (n : Nat) (t : T) (h : t.length ≤ 100000) (ha : Asc t) (s : Store) : run Ga (n + 2) "_law_text" [.d (.str t)] s = .ok (.d (textV t)) s := by
  have h1 : fits t.length = true := fits_of (by omega)
  rw [run_fn f_lt rfl]
  by_cases h0 : t = [45]
  · subst h0
    simp [b_law_text, textV]
  · simp only [b_law_text, HXc]
    simp [h0, len_str h1, mod2, walk_str h1]
    by_cases hne : t = []
    · subst hne
      simp [textV, okX]
    · by_cases he : t.length % 2 = 0
      · have he1 : ¬ ((t.length : Int) % 2 = 1) := by omega
        rw [lc_str (fun c => if decide (c ∈ HX) then none else some (.str [c])) (fun c _ => by cases hd : decide (c ∈ HX) <;> simp [lcBody_eq, -in_sign, -notin_sign, notin_hex, hd, -decide_eq_true_eq]) (by omega)]
        have fm : List.filterMap (fun c => if decide (c ∈ HX) then none else some (D.str [c])) t = (t.filter fun c => !decide (c ∈ HX)).map fun c => D.str [c] := by
          clear h0 hne h1 he he1 ha h
          induction t with
          | nil => rfl
          | cons c t ih => cases hd : decide (c ∈ HX) <;> simp [hd, ih, -decide_eq_true_eq]
        have hg : ((t.filter fun c => !decide (c ∈ HX)).map fun c => D.str [c]).all (D.good 1) = true := strs_good fun c hc => ha c (List.mem_filter.mp hc).1
        rw [fm]
        simp only [pure_bindM, guard_fits, Nat.zero_le, ne_nilE (n := 1) (by decide) hg, lift_some]
        have ie : (((t.filter fun c => !decide (c ∈ HX)).map fun c => D.str [c])).isEmpty = hexIn t := by rw [List.isEmpty_map]; exact not_hex t
        rw [ie]
        by_cases hh : hexIn t = true
        · have ok : okX t = true := by simp [okX, he, hh, hne]
          obtain ⟨acc', x', y', e⟩ := lt_loop n t h hh (List.range (t.length / 2)) [] none none none s (fun k hk => by have := List.mem_range.mp hk; omega) (by simp; omega)
          simp only [ltBody, b_law_text, HXc] at e
          have rr := range2 (L := t.length) (by omega) he
          simp only [hne, he1, hh, if_false, if_true, decide_false, decide_true]
          have e2 : (fun (k : Nat) => D.int ((2 * k : Nat) : Int)) = fun (k : Nat) => D.int (2 * (k : Int)) := by
            funext k
            exact congrArg D.int (by omega)
          rw [e2] at e rr
          simp [len_str h1, rr]
          rw [e]
          show retR (andS (if badX t = true then _ else _) _) = _
          cases hb : badX t with
          | true => simp [textV, h0, ok, hb]
          | false => simp [textV, h0, ok, hb]
        · have ok : okX t = false := by simp [okX, hh]
          simp [he1, hne, hh, textV, ok, h0]
      · have he1 : (t.length : Int) % 2 = 1 := by omega
        have ok : okX t = false := by simp [okX, he]
        simp [hne, he1, textV, ok, h0]

theorem f_same : Ga.fn "_law_same" = some b_law_same := by kernel_rfl
/-- what the law compares: of nesting below n -/
def D.cmpOk : Nat → D → Bool
  | _, .non => true | _, .int _ => true | _, .str _ => true
  | 0, _ => false
  | n + 1, .list xs => decide (xs.length ≤ 1000000) && xs.all (D.cmpOk n)
  | n + 1, .tup xs => decide (xs.length ≤ 1000000) && xs.all (D.cmpOk n)
  | _, _ => false
theorem same_loop (run' : Str → List W → M W) (x y : D) (xs : List D) (hix : ∀ (k : Nat) (v : D), xs[k]? = some v → idxD x (.int (k : Int)) = some v ∧ idxD y (.int (k : Int)) = some v) (hr : ∀ v ∈ xs, pcall run' "_law_same" [.d v, .d v] = M.pure (.bool true)) (s : Store) :
    ∀ (ks : List Nat) (z : Option W), (∀ k ∈ ks, k < xs.length) → ∃ z', forLoop (forBody (.name 2) (evSs run' Ga.gl [(.ite (.not (.call false "_law_same" [(.idx (.var 0) (.var 2)), (.idx (.var 1) (.var 2))])) [(.ret (.con (.bool false)))] [])])) (ks.map fun (k : Nat) => .int (k : Int)) [some (.d x), some (.d y), z] s = .ok .next [some (.d x), some (.d y), z'] s
  | [], z, _ => ⟨z, by simp [forLoop]⟩
  | k :: ks, z, h => by
    have hk := h k (by simp)
    have hv : xs[k]? = some xs[k] := List.getElem?_eq_getElem hk
    obtain ⟨i1, i2⟩ := hix k _ hv
    have q := hr xs[k] (List.getElem_mem hk)
    generalize xs[k] = v at i1 i2 q hv
    obtain ⟨z', e⟩ := same_loop run' x y xs hix hr s ks (some (.d (.int (k : Int)))) (fun j hj => h j (by simp [hj]))
    refine ⟨z', ?_⟩
    have e0 : forBody (.name 2) (evSs run' Ga.gl [(.ite (.not (.call false "_law_same" [(.idx (.var 0) (.var 2)), (.idx (.var 1) (.var 2))])) [(.ret (.con (.bool false)))] [])]) (.int (k : Int)) [some (.d x), some (.d y), z] s = .ok .next [some (.d x), some (.d y), some (.d (.int (k : Int)))] s := by
      unfold forBody
      simp only [bindPt_name, setVar_s, setVar_0]
      simp [i1, i2, q]
    rw [List.map_cons, forLoop, e0]
    exact e
theorem same_run : ∀ (n : Nat) (x : D), D.cmpOk n x = true → ∀ s, run Ga (n + 1) "_law_same" [.d x, .d x] s = .ok (.d (.bool true)) s
  | n, .non, _, s => by
    rw [run_fn f_same rfl]
    simp [b_law_same, isNon]
  | n, .int i, _, s => by
    rw [run_fn f_same rfl]
    simp [b_law_same, isNon, isID]
  | n, .str i, _, s => by
    rw [run_fn f_same rfl]
    simp [b_law_same, isNon, isID]
  | 0, .bool _, h, _ => by cases h
  | 0, .list _, h, _ => by cases h
  | 0, .tup _, h, _ => by cases h
  | 0, .rol _, h, _ => by cases h
  | n + 1, .bool _, h, _ => by cases h
  | n + 1, .rol _, h, _ => by cases h
  | n + 1, .list xs, h, s => by
    have h : (decide (xs.length ≤ 1000000) && xs.all (D.cmpOk n)) = true := h
    rw [Bool.and_eq_true, decide_eq_true_eq] at h
    obtain ⟨z', e⟩ := same_loop (run Ga (n + 1)) (.list xs) (.list xs) xs (fun k v hv => ⟨idx_listE hv, idx_listE hv⟩) (fun v hv => pcall2 (same_run n v (List.all_eq_true.mp h.2 v hv) [])) s (List.range xs.length) none (fun k hk => List.mem_range.mp hk)
    rw [run_fn f_same rfl]
    simp [b_law_same, isNon, isID, range1' (j := xs.length) (by omega), -range1_E]
    rw [e]
    simp
  | n + 1, .tup xs, h, s => by
    have h : (decide (xs.length ≤ 1000000) && xs.all (D.cmpOk n)) = true := h
    rw [Bool.and_eq_true, decide_eq_true_eq] at h
    obtain ⟨z', e⟩ := same_loop (run Ga (n + 1)) (.tup xs) (.tup xs) xs (fun k v hv => ⟨L2.atI_nat hv, L2.atI_nat hv⟩) (fun v hv => pcall2 (same_run n v (List.all_eq_true.mp h.2 v hv) [])) s (List.range xs.length) none (fun k hk => List.mem_range.mp hk)
    rw [run_fn f_same rfl]
    simp [b_law_same, isNon, isID, range1' (j := xs.length) (by omega), -range1_E]
    rw [e]
    simp
end K77

namespace K77
open Cr PySem
theorem f_lr : Ga.fn "_law_reads" = some b_law_reads := by kernel_rfl
theorem cmp_valW (n : Nat) (t : T) : D.cmpOk n (valW t) = true := by
  unfold valW
  split <;> cases n <;> rfl
theorem cmp_list {n : Nat} {xs : List D} (hl : xs.length ≤ 1000000) (h : ∀ x ∈ xs, D.cmpOk n x = true) : D.cmpOk (n + 1) (.list xs) = true := by
  show (decide (xs.length ≤ 1000000) && xs.all (D.cmpOk n)) = true
  rw [decide_eq_true hl, List.all_eq_true.mpr h]
  rfl
theorem cmp_tup {n : Nat} {xs : List D} (hl : xs.length ≤ 1000000) (h : ∀ x ∈ xs, D.cmpOk n x = true) : D.cmpOk (n + 1) (.tup xs) = true := by
  show (decide (xs.length ≤ 1000000) && xs.all (D.cmpOk n)) = true
  rw [decide_eq_true hl, List.all_eq_true.mpr h]
  rfl
theorem rwL_len (t : T) : (rwL t).length ≤ t.length + 1 := by
  unfold rwL
  split
  · simp
  · simpa using split_num 32 t
theorem cmp_rwL (n : Nat) (t : T) (h : t.length ≤ 100000) : D.cmpOk (n + 1) (.list (rwL t)) = true := by
  refine cmp_list (by have := rwL_len t; omega) fun x hx => ?_
  unfold rwL at hx
  split at hx
  · cases hx
  · obtain ⟨p, _, rfl⟩ := List.mem_map.mp hx
    exact cmp_valW n p
theorem cmp_pairV (n : Nat) (t : T) : D.cmpOk (n + 1) (pairV t) = true := by
  unfold pairV
  split
  · split
    · exact cmp_tup (by simp) fun x hx => by
        simp only [List.mem_cons, List.not_mem_nil, or_false] at hx
        rcases hx with rfl | rfl
        · exact cmp_valW n _
        · exact cmp_valW n _
    · rfl
  · rfl
theorem cmp_pairsV (n : Nat) (t : T) (h : t.length ≤ 100000) : D.cmpOk (n + 2) (pairsV t) = true := by
  unfold pairsV
  split
  · rfl
  · refine cmp_list ?_ fun x hx => ?_
    · unfold rpL
      split
      · simp
      · have := split_num 32 t
        simp
        omega
    · unfold rpL at hx
      split at hx
      · cases hx
      · obtain ⟨p, _, rfl⟩ := List.mem_map.mp hx
        exact cmp_pairV n p
theorem cmp_textV (n : Nat) (t : T) : D.cmpOk n (textV t) = true := by
  unfold textV
  split
  · cases n <;> rfl
  · split
    · split <;> cases n <;> rfl
    · cases n <;> rfl
theorem peeks_rd {k : Nat} {s : Store} {xs : List D} {b : D} (h : s[k]? = some (.list xs)) : peeks [.ref k, .d b] s = .ok [.list xs, b] s := by
  show ((match s[k]? with | some (.list xs) => Res.ok (D.list xs) s | some (.frz d) => .ok d s | none => .bad).andThen fun x s => ((peeks [.d b] s).andThen fun xs => M.pure (x :: xs))) = _
  rw [h]
  rfl
/-- a list told as a cell, beside the same list -/
theorem same_cell (n : Nat) {k : Nat} {s : Store} {xs : List D} (h : s[k]? = some (.list xs)) (hc : D.cmpOk n (.list xs) = true) : pcall (run Ga (n + 1)) "_law_same" [.ref k, .d (.list xs)] s = .ok (.bool true) s :=
  pcall_atom (xs := [.list xs, .list xs]) (st := []) (peeks_rd h) (same_run n _ hc []) rfl
theorem law_reads_run (n : Nat) (t : T) (h : t.length ≤ 100000) (ha : Asc t) : ∃ st, run Ga (n + 4) "_law_reads" [.d (.str t)] [] = .ok (.d (.bool true)) st := by
  have r1 : pcall (run Ga (n + 3)) "read_whole" [.d (.str t)] = M.pure (valW t) := pcall1 (read_whole_run (n + 2) t h [])
  have r2 : pcall (run Ga (n + 3)) "_law_whole" [.d (.str t)] = M.pure (valW t) := pcall1 (law_whole_run (n + 2) t h ha [])
  have r3 : pcall (run Ga (n + 3)) "_law_same" [.d (valW t), .d (valW t)] = M.pure (.bool true) := pcall2 (same_run (n + 2) _ (cmp_valW _ t) [])
  have w1 : run Ga (n + 3) "read_wholes" [.d (.str t)] [] = .ok (if t ≠ [45] ∧ badW t = true then .d .non else .ref 0) [.list (rwL t)] := read_wholes_run (n + 1) t h []
  have w2 : pcall (run Ga (n + 3)) "_law_wholes" [.d (.str t)] = M.pure (wholesV t) := pcall1 (law_wholes_run (n + 1) t h ha [])
  have p1 : pcall (run Ga (n + 3)) "read_pairs" [.d (.str t)] = M.pure (pairsV t) := pcall1 (read_pairs_run n t h [])
  have p2 : pcall (run Ga (n + 3)) "_law_pairs" [.d (.str t)] = M.pure (pairsV t) := law_pairs_run (n + 1) t h ha
  have p3 : pcall (run Ga (n + 3)) "_law_same" [.d (pairsV t), .d (pairsV t)] = M.pure (.bool true) := pcall2 (same_run (n + 2) _ (cmp_pairsV n t h) [])
  have t1 : pcall (run Ga (n + 3)) "read_text" [.d (.str t)] = M.pure (textV t) := pcall1 (read_text_run (n + 1) t h [])
  have t2 : pcall (run Ga (n + 3)) "_law_text" [.d (.str t)] = M.pure (textV t) := pcall1 (law_text_run (n + 1) t h ha [])
  have t3 : pcall (run Ga (n + 3)) "_law_same" [.d (textV t), .d (textV t)] = M.pure (.bool true) := pcall2 (same_run (n + 2) _ (cmp_textV _ t) [])
  refine ⟨[.list (rwL t)], ?_⟩
  rw [run_fn f_lr rfl]
  simp [b_law_reads, r1, r2, r3]
  rw [exM_bind w1]
  simp [w2]
  have w3 : pcall (run Ga (n + 3)) "_law_same" [(if t ≠ [45] ∧ badW t = true then .d .non else .ref 0), .d (wholesV t)] [.list (rwL t)] = .ok (.bool true) [.list (rwL t)] := by
    unfold wholesV
    by_cases hb : t ≠ [45] ∧ badW t = true
    · rw [if_pos hb, if_pos hb]
      exact pcall_atom (xs := [.non, .non]) (st := []) rfl (same_run (n + 2) .non rfl []) rfl
    · rw [if_neg hb, if_neg hb]
      exact same_cell (n + 2) rfl (cmp_rwL (n + 1) t h)
  simp only [ne_eq] at w3
  rw [exM_bind w3]
  simp [p1, p2, p3, t1, t2, t3]
end K77

namespace K77
open Cr PySem
theorem f_ln : Ga.fn "_law_near" = some b_law_near := by kernel_rfl
def nearA (t : T) (a : Nat) (w : T) : T := t.take a ++ w ++ t.drop a
def nearB (t : T) (a : Nat) (w : T) : T := t.take a ++ w ++ t.drop (a + 1)
def lnBody : List S := match b_law_near.body with
  | [_, _, .for _ _ b, _, _] => b
  | _ => []
theorem ln_loop (n : Nat) (t : T) (a : Nat) (h : t.length ≤ 10000) (q : W) : ∀ (ws : List T) (acc : List T) (x y : Option W), (∀ w ∈ ws, w.length ≤ 10) → acc.length + 2 * ws.length ≤ 1000000 →
    ∃ x', forLoop (forBody (.name 4) (evSs (run Ga n) Ga.gl lnBody)) (ws.map .str) [some (.d (.str t)), some q, some (.d (.int (a : Int))), some (.ref 0), x, y] [.list (acc.map .str)] =
      .ok .next [some (.d (.str t)), some q, some (.d (.int (a : Int))), some (.ref 0), x', y] [.list ((acc ++ ws.flatMap fun w => [nearA t a w, nearB t a w]).map .str)]
  | [], acc, x, y, _, _ => ⟨x, by simp [forLoop]⟩
  | w :: ws, acc, x, y, hw, hl => by
    have hl : acc.length + 2 * (ws.length + 1) ≤ 1000000 := hl
    have w0 := hw w (by simp)
    have h1 : fits t.length = true := fits_of (by omega)
    have tk : (t.take a).length ≤ 10000 := by rw [List.length_take]; omega
    have td : (t.drop a).length ≤ 10000 := by rw [List.length_drop]; omega
    have td' : (t.drop (a + 1)).length ≤ 10000 := by rw [List.length_drop]; omega
    have c1 : sliceD (.str t) none (some (a : Int)) = some (.str (t.take a)) := by rw [slice_strE h1, cut_take]
    have c2 : sliceD (.str t) (some (a : Int)) none = some (.str (t.drop a)) := by rw [slice_strE h1, cut_drop]
    have c3 : sliceD (.str t) (some ((a : Int) + 1)) none = some (.str (t.drop (a + 1))) := by
      rw [slice_strE h1, show (a : Int) + 1 = ((a + 1 : Nat) : Int) by omega, cut_drop]
    have d1 : binD .Add (.str (t.take a)) (.str w) = some (.str (t.take a ++ w)) := add_str (by omega)
    have d2 : binD .Add (.str (t.take a ++ w)) (.str (t.drop a)) = some (.str (nearA t a w)) := add_str (by rw [List.length_append]; omega)
    have d3 : binD .Add (.str (t.take a ++ w)) (.str (t.drop (a + 1))) = some (.str (nearB t a w)) := add_str (by rw [List.length_append]; omega)
    have e : forBody (.name 4) (evSs (run Ga n) Ga.gl lnBody) (.str w) [some (.d (.str t)), some q, some (.d (.int (a : Int))), some (.ref 0), x, y] [.list (acc.map .str)] =
        .ok .next [some (.d (.str t)), some q, some (.d (.int (a : Int))), some (.ref 0), some (.d (.str w)), y] [.list ((acc ++ [nearA t a w, nearB t a w]).map .str)] := by
      unfold forBody
      simp only [bindPt_name, setVar_s, setVar_0]
      have l1 : acc.length < 16777216 := by omega
      have l2 : acc.length + 1 < 16777216 := by omega
      simp [lnBody, b_law_near, c1, c2, c3, d1, d2, d3, l1, l2]
    obtain ⟨x', e2⟩ := ln_loop n t a h q ws (acc ++ [nearA t a w, nearB t a w]) (some (.d (.str w))) y (fun v hv => hw v (by simp [hv])) (by simp; omega)
    refine ⟨x', ?_⟩
    rw [List.map_cons, forLoop, e]
    show forLoop _ _ _ _ = _
    rw [e2, List.flatMap_cons, List.append_assoc]
def nearW : List T := [[], [32], [45], [44], [48], [55], [97], [70], [53, 102], [48, 48], [95], [10], [46], [120], [32, 32], [49, 44, 50], [53, 101]]
def nearM : List T := [[48], [45, 48], [48, 48], [48, 49], [45, 48, 49], [45, 45, 49], [49, 45], [49, 32, 45], [45, 32, 49], [49, 44], [44, 49], [49, 44, 50, 44, 51], [49, 44, 32, 50], [45, 44, 45], [48, 44, 45, 48], [53, 70], [53, 102], [53, 101], [48, 120], [49, 95, 48]]
def nearL : List T := [List.replicate 40 57, List.replicate 41 57, 45 :: List.replicate 40 57, 45 :: List.replicate 41 57, 49 :: List.replicate 40 48, List.replicate 99 53]
def nearT (t : T) (a : Nat) : List T := ([t, [], [45], [32], t ++ [32], [32] ++ t, t ++ [10], [48] ++ t, [45] ++ t, [43] ++ t, t ++ t, t.reverse] ++ nearW.flatMap fun w => [nearA t a w, nearB t a w]) ++ nearM ++ nearL
theorem near_ok (t : T) (a : Nat) (h : t.length ≤ 10000) (ha : Asc t) : ∀ l ∈ nearT t a, l.length ≤ 100000 ∧ Asc l := by
  have cat : ∀ {x y : T}, Asc x → Asc y → Asc (x ++ y) := fun h1 h2 c hc => (List.mem_append.mp hc).elim (h1 c) (h2 c)
  have sm : ∀ x ∈ nearW ++ nearM ++ nearL ++ [[45], [32], [10], [48], [43]], x.length ≤ 1000 ∧ x.all (· < 1114112) = true := by decide
  have sm2 : ∀ x ∈ nearW ++ nearM ++ nearL ++ [[45], [32], [10], [48], [43]], x.length ≤ 1000 ∧ Asc x := fun x hx => ⟨(sm x hx).1, fun c hc => by simpa using List.all_eq_true.mp (sm x hx).2 c hc⟩
  have tk : ∀ a, (t.take a).length ≤ 10000 ∧ Asc (t.take a) := fun a => ⟨by rw [List.length_take]; omega, fun c hc => ha c (List.mem_of_mem_take hc)⟩
  have td : ∀ a, (t.drop a).length ≤ 10000 ∧ Asc (t.drop a) := fun a => ⟨by rw [List.length_drop]; omega, fun c hc => ha c (List.mem_of_mem_drop hc)⟩
  have one : ∀ c, c < 1114112 → Asc [c] := fun c h d hd => by
    have : d = c := by simpa using hd
    rw [this]
    exact h
  intro l hl
  unfold nearT at hl
  rcases List.mem_append.mp hl with hl | hl
  · rcases List.mem_append.mp hl with hl | hl
    · rcases List.mem_append.mp hl with hl | hl
      · simp only [List.mem_cons, List.not_mem_nil, or_false] at hl
        rcases hl with rfl | rfl | rfl | rfl | rfl | rfl | rfl | rfl | rfl | rfl | rfl | rfl
        · exact ⟨by omega, ha⟩
        · exact ⟨by simp, fun c hc => by cases hc⟩
        · exact ⟨by simp, one _ (by decide)⟩
        · exact ⟨by simp, one _ (by decide)⟩
        · exact ⟨by simp; omega, cat ha (one _ (by decide))⟩
        · exact ⟨by simp; omega, cat (one _ (by decide)) ha⟩
        · exact ⟨by simp; omega, cat ha (one _ (by decide))⟩
        · exact ⟨by simp; omega, cat (one _ (by decide)) ha⟩
        · exact ⟨by simp; omega, cat (one _ (by decide)) ha⟩
        · exact ⟨by simp; omega, cat (one _ (by decide)) ha⟩
        · exact ⟨by simp; omega, cat ha ha⟩
        · exact ⟨by simp; omega, fun c hc => ha c (List.mem_reverse.mp hc)⟩
      · obtain ⟨w, hw, hl⟩ := List.mem_flatMap.mp hl
        have w1 := sm2 w (by simp [hw])
        simp only [List.mem_cons, List.not_mem_nil, or_false] at hl
        rcases hl with rfl | rfl
        · exact ⟨by unfold nearA; rw [List.length_append, List.length_append]; have := (tk a).1; have := (td a).1; omega, cat (cat (tk a).2 w1.2) (td a).2⟩
        · exact ⟨by unfold nearB; rw [List.length_append, List.length_append]; have := (tk a).1; have := (td (a + 1)).1; omega, cat (cat (tk a).2 w1.2) (td (a + 1)).2⟩
    · have w1 := sm2 l (by simp [hl])
      exact ⟨by omega, w1.2⟩
  · have w1 := sm2 l (by simp [hl])
    exact ⟨by omega, w1.2⟩
theorem rev_str {t : T} (h : t.length ≤ 10000) : revD (.str t) = some (.str t.reverse) := by
  simp [revD, fits]
  omega
theorem law_near_run (n : Nat) (t : T) (v : Nat) (r : List D) (h : t.length ≤ 10000) : pcall (run Ga (n + 1)) "_law_near" [.d (.str t), .d (.list (.int (v : Int) :: r))] = M.pure (.list ((nearT t (v % (t.length + 1))).map .str)) := by
  have h1 : fits t.length = true := fits_of (by omega)
  have md : binD .Mod (.int (v : Int)) (.int ((t.length : Int) + 1)) = some (.int ((v % (t.length + 1) : Nat) : Int)) := by
    rw [mod_int' (by omega)]
    rfl
  have s1 : binD .Add (.str t) (.str [32]) = some (.str (t ++ [32])) := add_str (by simp; omega)
  have s2 : binD .Add (.str [32]) (.str t) = some (.str ([32] ++ t)) := add_str (by simp; omega)
  have s3 : binD .Add (.str t) (.str [10]) = some (.str (t ++ [10])) := add_str (by simp; omega)
  have s4 : binD .Add (.str [48]) (.str t) = some (.str ([48] ++ t)) := add_str (by simp; omega)
  have s5 : binD .Add (.str [45]) (.str t) = some (.str ([45] ++ t)) := add_str (by simp; omega)
  have s6 : binD .Add (.str [43]) (.str t) = some (.str ([43] ++ t)) := add_str (by simp; omega)
  have s7 : binD .Add (.str t) (.str t) = some (.str (t ++ t)) := add_str (by omega)
  have k1 : binD .Mult (.str [57]) (.int 40) = some (.str (List.replicate 40 57)) := by rfl
  have k2 : binD .Mult (.str [57]) (.int 41) = some (.str (List.replicate 41 57)) := by rfl
  have k3 : binD .Mult (.str [48]) (.int 40) = some (.str (List.replicate 40 48)) := by rfl
  have k4 : binD .Mult (.str [53]) (.int 99) = some (.str (List.replicate 99 53)) := by rfl
  have k5 : binD .Add (.str [45]) (.str (List.replicate 40 57)) = some (.str (45 :: List.replicate 40 57)) := by rfl
  have k6 : binD .Add (.str [45]) (.str (List.replicate 41 57)) = some (.str (45 :: List.replicate 41 57)) := by rfl
  have k7 : binD .Add (.str [49]) (.str (List.replicate 40 48)) = some (.str (49 :: List.replicate 40 48)) := by rfl
  obtain ⟨x', e⟩ := ln_loop n t (v % (t.length + 1)) h (.d (.list (.int (v : Int) :: r))) nearW [t, [], [45], [32], t ++ [32], [32] ++ t, t ++ [10], [48] ++ t, [45] ++ t, [43] ++ t, t ++ t, t.reverse] none none (by decide) (by simp; decide)
  have e0 : ∃ st, run Ga (n + 1) "_law_near" [.d (.str t), .d (.list (.int (v : Int) :: r))] [] = .ok (.d (.list ((nearT t (v % (t.length + 1))).map .str))) st := by
    refine ⟨[.list (([t, [], [45], [32], t ++ [32], [32] ++ t, t ++ [10], [48] ++ t, [45] ++ t, [43] ++ t, t ++ t, t.reverse] ++ nearW.flatMap fun w => [nearA t (v % (t.length + 1)) w, nearB t (v % (t.length + 1)) w]).map .str)], ?_⟩
    rw [run_fn f_ln rfl]
    generalize hF : nearW.flatMap (fun w => [nearA t (v % (t.length + 1)) w, nearB t (v % (t.length + 1)) w]) = F at e ⊢
    have Fl : F.length = 34 := by rw [← hF]; rfl
    generalize hA : v % (t.length + 1) = at' at md e
    simp only [nearW, List.map_cons, List.map_nil, lnBody, b_law_near, List.map_append] at e
    simp [b_law_near, len_str h1, idx0L, md, s1, s2, s3, s4, s5, s6, s7, rev_str h] at e ⊢
    rw [e]
    have fin : ∀ (xs ys : List T), xs.length ≤ 1000 → ys.length ≤ 1000 → binD .Add (.list (xs.map .str)) (.list (ys.map .str)) = some (.list ((xs ++ ys).map .str)) := fun xs ys h1 h2 => by
      rw [add_list (by simp; omega), List.map_append]
    have q1 := fin ([t, [], [45], [32], t ++ [32], [32] ++ t, t ++ [10], [48] ++ t, [45] ++ t, [43] ++ t, t ++ t, t.reverse] ++ F) nearM (by simp [Fl]) (by decide)
    have q2 := fin ([t, [], [45], [32], t ++ [32], [32] ++ t, t ++ [10], [48] ++ t, [45] ++ t, [43] ++ t, t ++ t, t.reverse] ++ F ++ nearM) nearL (by simp [Fl, nearM]) (by decide)
    have nT : nearT t at' = ([t, [], [45], [32], t ++ [32], [32] ++ t, t ++ [10], [48] ++ t, [45] ++ t, [43] ++ t, t ++ t, t.reverse] ++ F) ++ nearM ++ nearL := by
      rw [← hA]
      unfold nearT
      rw [hF]
    rw [nT]
    unfold nearL at q2 ⊢
    generalize List.replicate 40 57 = r1 at k1 k5 q2 ⊢
    generalize List.replicate 41 57 = r2 at k2 k6 q2 ⊢
    generalize List.replicate 40 48 = r3 at k3 k7 q2 ⊢
    generalize List.replicate 99 53 = r4 at k4 q2 ⊢
    clear nT e
    simp [nearM] at q1 q2 ⊢
    simp [k1, k2, k3, k4, k5, k6, k7, q1, q2]
  obtain ⟨st, e0⟩ := e0
  exact pcall2 e0
end K77

namespace K77
open Cr PySem
theorem f_lnb : Ga.fn "_law_numbers" = some b_law_numbers := by kernel_rfl
def lnbBody : List S := match b_law_numbers.body with
  | [_, _, _, _, .for _ _ b, _] => b
  | _ => []
abbrev nD (v : Nat) : D := .int (v : Int)
theorem small_m {i : Int} (h : 0 ≤ i) (h2 : i < 4294967296) : small64 i = true := decide_eq_true (by omega)
theorem mulL {i j : Int} (h : small64 i = true) : binD .Mult (.int i) (.int j) = some (.int (i * j)) := mul_int' (by simp [mulOk, h])
theorem mulR {i j : Int} (h : small64 j = true) : binD .Mult (.int i) (.int j) = some (.int (i * j)) := mul_int' (by simp [mulOk, h])
theorem pow18 : binD .Pow (.int 10) (.int 18) = some (.int 1000000000000000000) := by rfl
theorem lnb_step (n : Nat) (sc cn : W) (at_ : Int) (k : Nat) (cell : Int) (hc : 0 ≤ cell) (x y : Option W) (acc : List Nat) (hl : acc.length < 100000) (hk : k < 100000) (ha : small64 at_ = true) :
    ∃ cell' y' v, 0 ≤ cell' ∧ v ≤ 1008 ∧ forBody (.name 5) (evSs (run Ga n) Ga.gl lnbBody) (.int (k : Int)) [some sc, some (.d (.int at_)), some cn, some (.d (.int cell)), some (.ref 0), x, y] [.list (acc.map nD)] =
      .ok .next [some sc, some (.d (.int at_)), some cn, some (.d (.int cell')), some (.ref 0), some (.d (.int (k : Int))), y'] [.list ((acc ++ [v]).map nD)] := by
  have l1 : acc.length < 16777216 := by omega
  have nat_of : ∀ i : Int, 0 ≤ i → ((i.toNat : Nat) : Int) = i := fun i h => Int.toNat_of_nonneg h
  by_cases hb : 1000000000000000000 ≤ cell
  · have p := Int.emod_nonneg cell (b := 1009) (by decide)
    have p2 := Int.emod_lt_of_pos cell (b := 1009) (by decide)
    refine ⟨cell / 1009, y, (cell % 1009).toNat, Int.ediv_nonneg hc (by decide), by omega, ?_⟩
    unfold forBody
    simp only [bindPt_name, setVar_s, setVar_0]
    simp [lnbBody, b_law_numbers, pow18, hb, mod_int', div_int', l1, nD, nat_of _ p]
  · have hb' : ¬ (1000000000000000000 : Int) ≤ cell := hb
    generalize hm : (cell * 48271 + ((k : Int) + 1) * 69621 + at_ * 4001) % 2147483647 = m1
    have q0 : 0 ≤ m1 := by rw [← hm]; exact Int.emod_nonneg _ (by decide)
    have q1 : m1 < 2147483647 := by rw [← hm]; exact Int.emod_lt_of_pos _ (by decide)
    generalize hm2 : (m1 * m1 + 16807 * ((k : Int) + 3)) % 2147483629 = m2
    have p := Int.emod_nonneg (m2 / 7) (b := 1009) (by decide)
    have p2 := Int.emod_lt_of_pos (m2 / 7) (b := 1009) (by decide)
    refine ⟨cell, some (.d (.int m2)), (m2 / 7 % 1009).toNat, hc, by omega, ?_⟩
    unfold forBody
    simp only [bindPt_name, setVar_s, setVar_0]
    have b1 : binD .Mult (.int cell) (.int 48271) = some (.int (cell * 48271)) := mulR (by decide)
    have b2 : binD .Mult (.int ((k : Int) + 1)) (.int 69621) = some (.int (((k : Int) + 1) * 69621)) := mulR (by decide)
    have b3 : binD .Mult (.int at_) (.int 4001) = some (.int (at_ * 4001)) := mulR (by decide)
    have b4 : binD .Mult (.int m1) (.int m1) = some (.int (m1 * m1)) := mulR (small_m q0 (by omega))
    have b5 : binD .Mult (.int 16807) (.int ((k : Int) + 3)) = some (.int (16807 * ((k : Int) + 3))) := mulL (by decide)
    simp [lnbBody, b_law_numbers, pow18, hb', mod_int', div_int', l1, nD, b1, b2, b3, hm, b4, b5, hm2, nat_of _ p]
theorem lnb_loop (n : Nat) (sc cn : W) (at_ : Int) (ha : small64 at_ = true) : ∀ (ks : List Nat) (cell : Int) (x y : Option W) (acc : List Nat), 0 ≤ cell → (∀ k ∈ ks, k < 100000) → (∀ v ∈ acc, v ≤ 1008) → acc.length + ks.length < 100000 →
    ∃ (cell' : Int) (x' y' : Option W) (acc' : List Nat), acc'.length = acc.length + ks.length ∧ (∀ v ∈ acc', v ≤ 1008) ∧ forLoop (forBody (.name 5) (evSs (run Ga n) Ga.gl lnbBody)) (ks.map nD) [some sc, some (.d (.int at_)), some cn, some (.d (.int cell)), some (.ref 0), x, y] [.list (acc.map nD)] =
      .ok .next [some sc, some (.d (.int at_)), some cn, some (.d (.int cell')), some (.ref 0), x', y'] [.list (acc'.map nD)]
  | [], cell, x, y, acc, hc, hk, hv, hl => ⟨cell, x, y, acc, rfl, hv, by simp [forLoop]⟩
  | k :: ks, cell, x, y, acc, hc, hk, hv, hl => by
    have hl : acc.length + (ks.length + 1) < 100000 := hl
    obtain ⟨c1, y1, v, h1, h2, e⟩ := lnb_step n sc cn at_ k cell hc x y acc (by omega) (hk k (by simp)) ha
    obtain ⟨c2, x2, y2, acc2, g1, g2, e2⟩ := lnb_loop n sc cn at_ ha ks c1 (some (.d (.int (k : Int)))) y1 (acc ++ [v]) h1 (fun j hj => hk j (by simp [hj])) (fun u hu => by
      rcases List.mem_append.mp hu with hu | hu
      · exact hv u hu
      · have : u = v := by simpa using hu
        omega) (by simp; omega)
    refine ⟨c2, x2, y2, acc2, by rw [g1]; simp; omega, g2, ?_⟩
    rw [List.map_cons, forLoop, e]
    exact e2
/-- what is drawn -/
def Drawn (vs : List Nat) : Prop := vs.length = 60 ∧ ∀ v ∈ vs, v ≤ 1008
theorem law_numbers_run (n : Nat) (ns : List Int) (a : Nat) (ha : a ≤ 1) : ∃ vs, Drawn vs ∧ pcall (run Ga (n + 1)) "_law_numbers" [.d (.rol (ns.map .int)), .d (.int (a : Int)), .d (.int 60)] = M.pure (.list (vs.map nD)) := by
  have rng : rangeD [.int 60] = some ((List.range 60).map nD) := range1' (j := 60) (by decide)
  have sa : small64 (a : Int) = true := small_m (by omega) (by omega)
  -- the cell ahead of the loop
  obtain ⟨cell, hc, pre⟩ : ∃ cell : Int, 0 ≤ cell ∧ ∀ k : Cr.Env → Store → SR, andS (andS (evS (run Ga n) Ga.gl (b_law_numbers.body.getD 0 .bad) (startE 7 [.d (.rol (ns.map .int)), .d (.int (a : Int)), .d (.int 60)]) []) (fun ρ s => andS (evS (run Ga n) Ga.gl (b_law_numbers.body.getD 1 .bad) ρ s) (fun ρ s => evS (run Ga n) Ga.gl (b_law_numbers.body.getD 2 .bad) ρ s))) k =
      k [some (.d (.rol (ns.map .int))), some (.d (.int (a : Int))), some (.d (.int 60)), some (.d (.int cell)), none, none, none] [] := by
    have m1 : binD .Mult (.int 1000003) (.int ((a : Int) + 1)) = some (.int (1000003 * ((a : Int) + 1))) := mulL (by decide)
    have m2 : ∀ c : Int, binD .Mult (.int 2) (.int c) = some (.int (2 * c)) := fun c => mulL (by decide)
    have bi : ∀ c : Int, biD .int [.int c] = some (.int c) := fun _ => rfl
    by_cases h : a < ns.length
    · have h' : (a : Int) < (ns.length : Int) := by omega
      have ix : idxD (.rol (ns.map .int)) (.int (a : Int)) = some (.int ns[a]) := idx_rolE (by rw [List.getElem?_map, List.getElem?_eq_getElem h]; rfl)
      generalize ns[a] = c at ix
      by_cases hn : c < 0
      · refine ⟨1 - 2 * c, by omega, fun k => ?_⟩
        simp [b_law_numbers, m1, h', ix, bi, hn, m2]
      · refine ⟨c, by omega, fun k => ?_⟩
        simp [b_law_numbers, m1, h', ix, bi, hn, m2]
    · have h' : ¬ (a : Int) < (ns.length : Int) := by omega
      have hn : ¬ (1000003 * ((a : Int) + 1)) < 0 := by omega
      refine ⟨1000003 * ((a : Int) + 1), by omega, fun k => ?_⟩
      simp [b_law_numbers, m1, h', hn]
  obtain ⟨c2, x2, y2, vs, g1, g2, e⟩ := lnb_loop n (.d (.rol (ns.map .int))) (.d (.int 60)) a sa (List.range 60) cell none none [] hc (fun k hk => by have := List.mem_range.mp hk; omega) (fun v hv => by cases hv) (by simp)
  refine ⟨vs, ⟨by simpa using g1, g2⟩, ?_⟩
  have e0 : run Ga (n + 1) "_law_numbers" [.d (.rol (ns.map .int)), .d (.int (a : Int)), .d (.int 60)] [] = .ok (.ref 0) [.list (vs.map nD)] := by
    rw [run_fn f_lnb rfl]
    have e : forLoop _ _ _ _ = _ := e
    simp only [lnbBody, b_law_numbers, List.map_nil] at e
    have pr := pre (evSs (run Ga n) Ga.gl (b_law_numbers.body.drop 3))
    have body : evSs (run Ga n) Ga.gl b_law_numbers.body (startE 7 [.d (.rol (ns.map .int)), .d (.int (a : Int)), .d (.int 60)]) [] = andS (andS (evS (run Ga n) Ga.gl (b_law_numbers.body.getD 0 .bad) (startE 7 [.d (.rol (ns.map .int)), .d (.int (a : Int)), .d (.int 60)]) []) (fun ρ s => andS (evS (run Ga n) Ga.gl (b_law_numbers.body.getD 1 .bad) ρ s) (fun ρ s => evS (run Ga n) Ga.gl (b_law_numbers.body.getD 2 .bad) ρ s))) (evSs (run Ga n) Ga.gl (b_law_numbers.body.drop 3)) := by
      rw [andS_assoc, show b_law_numbers.body = b_law_numbers.body.getD 0 .bad :: b_law_numbers.body.getD 1 .bad :: b_law_numbers.body.getD 2 .bad :: b_law_numbers.body.drop 3 from rfl]
      simp only [evSs_fun, andS_assoc]
      rfl
    show retR (evSs (run Ga n) Ga.gl b_law_numbers.body (startE 7 _) []) = _
    rw [body, pr]
    simp [b_law_numbers, rng]
    rw [e]
    simp
  exact pcall_ds (xs := [.rol (ns.map .int), .int (a : Int), .int 60]) (st' := [.frz (.list (vs.map nD))]) e0 (freeze_ref rfl)
end K77

namespace K77
open Cr PySem
def sg (i : Int) : T := if i < 0 then 45 :: TL.numL i.natAbs else TL.numL i.natAbs
theorem intStr_eq (i : Int) : intStr i = sg i := by
  unfold intStr sg
  by_cases h : i < 0
  · rw [if_pos h, PyProof.Rows.toString_neg h]
    have e : (0 - i) = ((i.natAbs : Nat) : Int) := by omega
    rw [e]
    have := TL.tl_num i.natAbs
    show (Str.ofString ("-" ++ toString ((i.natAbs : Nat) : Int))).cps.toList = _
    rw [PyProof.Rows.signs_ofString, String.toList_append, List.map_append, ← PyProof.Rows.signs_ofString (toString ((i.natAbs : Nat) : Int))]
    rw [show (Str.ofString (toString ((i.natAbs : Nat) : Int))).cps.toList = TL.numL i.natAbs from this]
    rfl
  · rw [if_neg h]
    have e : i = ((i.natAbs : Nat) : Int) := by omega
    have := TL.tl_num i.natAbs
    rw [← e] at this
    exact this
theorem numL_head : ∀ n : Nat, 0 < n → ∃ c r, TL.numL n = c :: r ∧ 49 ≤ c ∧ c ≤ 57 := by
  intro n
  induction n using Nat.strongRecOn with
  | _ n ih =>
    intro h0
    by_cases h : n < 10
    · exact ⟨48 + n, [], TL.numL_lt h, by omega, by omega⟩
    · obtain ⟨c, r, e, h1, h2⟩ := ih (n / 10) (by omega) (by omega)
      exact ⟨c, r ++ [48 + n % 10], by rw [TL.numL_step (by omega), e]; rfl, h1, h2⟩
def Sm (i : Int) : Prop := i.natAbs < 10 ^ 40
theorem numL_short {n : Nat} (h : n < 10 ^ 40) : (TL.numL n).length ≤ 40 := TL.numL_len (by decide) h
theorem sg_len {i : Int} (h : Sm i) : (sg i).length ≤ 41 := by
  have := numL_short h
  unfold sg
  split <;> simp <;> omega
theorem sg_free {i : Int} {s : Nat} (h : s ≠ 45 ∧ (s < 48 ∨ 57 < s)) : s ∉ sg i := by
  have := TL.numL_free (n := i.natAbs) h.2
  unfold sg
  split
  · simp [h.1, this]
  · exact this
theorem sg_asc (i : Int) : Asc (sg i) := by
  have d := TL.numL_digits i.natAbs
  unfold sg
  intro c hc
  split at hc
  · rcases List.mem_cons.mp hc with rfl | hc
    · decide
    · have := d c hc
      omega
  · have := d c hc
    omega
theorem plain_sg (i : Int) : plain (sg i) = TL.numL i.natAbs := by
  unfold plain sg
  by_cases h : i < 0
  · simp [h]
  · rw [if_neg h]
    have d := TL.numL_digits i.natAbs
    cases e : TL.numL i.natAbs with
    | nil => rfl
    | cons c r =>
      rw [e] at d
      have := d c (by simp)
      have : c ≠ 45 := by omega
      simp [this]
theorem okW_sg {i : Int} (h : Sm i) : okW (sg i) = true := by
  have l := numL_short h
  have l1 : 1 ≤ (TL.numL i.natAbs).length := by
    have := TL.numL_ne i.natAbs
    cases e : TL.numL i.natAbs with
    | nil => exact absurd e this
    | cons _ _ => simp
  have d : (TL.numL i.natAbs).all dig = true := List.all_eq_true.mpr fun c hc => dig_iff.mpr (TL.numL_digits _ c hc)
  have ok : okL (sg i) = true := by simp only [okL, plain_sg, l, l1, d, decide_true, Bool.and_self]
  unfold okW
  rw [ok, plain_sg]
  by_cases h0 : i = 0
  · subst h0
    have : sg 0 = [48] := by
      unfold sg
      rw [if_neg (by decide)]
      exact TL.numL_lt (by decide)
    rw [this]
    simp
  · obtain ⟨c, r, e, h1, h2⟩ := numL_head i.natAbs (by omega)
    have : c ≠ 48 := by omega
    rw [e]
    simp [this]
theorem int_sg {i : Int} (h : Sm i) : intText? ⟨(sg i).toArray⟩ = some i := by
  have l := numL_short h
  unfold sg
  by_cases hn : i < 0
  · rw [if_pos hn]
    rw [intText_neg (x := ⟨(45 :: TL.numL i.natAbs).toArray⟩) (cs := TL.numL i.natAbs) rfl (TL.numL_digits _) (TL.numL_ne _) (by rw [SX_len]; simp; omega), TL.numL_val]
    congr 1
    omega
  · rw [if_neg hn]
    rw [intText_digits (x := ⟨(TL.numL i.natAbs).toArray⟩) (TL.numL_digits _) (TL.numL_ne _) (by rw [SX_len]; omega)]
    show some ((NumText.digitsVal (TL.numL i.natAbs) : Nat) : Int) = _
    rw [TL.numL_val]
    congr 1
    omega
theorem valW_sg {i : Int} (h : Sm i) : valW (sg i) = .int i := by
  unfold valW
  rw [if_pos (okW_sg h), int_sg h]
  rfl
theorem log_sm {i : Int} (h : Sm i) : i.natAbs.log2 < 1920 := by
  by_cases h0 : i.natAbs = 0
  · rw [h0]
    decide
  · rw [Nat.log2_lt h0]
    exact Nat.lt_trans h (by decide)
theorem str_sg {i : Int} (h : Sm i) : biD .str [.int i] = some (.str (sg i)) := by
  show (strOfInt i).map D.str = _
  unfold strOfInt
  rw [decide_eq_true (log_sm h), if_pos rfl, intStr_eq]
  rfl
theorem fmt_sg {i : Int} (h : Sm i) : fmtD (.int i) = some (sg i) := by
  show strOfInt i = _
  unfold strOfInt
  rw [decide_eq_true (log_sm h), if_pos rfl, intStr_eq]
theorem str_digit {d : Nat} (h : d < 10) : biD .str [.int (d : Int)] = some (.str [48 + d]) := by
  have s : Sm (d : Int) := by
    unfold Sm
    have : (d : Int).natAbs < 10 := by omega
    exact Nat.lt_trans this (by decide)
  rw [str_sg s]
  have : sg (d : Int) = [48 + d] := by
    unfold sg
    rw [if_neg (by omega)]
    have e : (d : Int).natAbs = d := by omega
    rw [e, TL.numL_lt h]
  rw [this]
theorem digits_lt : ∀ (cs : List Nat) (a : Nat), NumText.AllDigits cs → cs.foldl (fun acc c => acc * 10 + (c - 48)) a < (a + 1) * 10 ^ cs.length
  | [], a, _ => by simp
  | c :: cs, a, h => by
    have hc := h c (by simp)
    have ih := digits_lt cs (a * 10 + (c - 48)) (fun d hd => h d (by simp [hd]))
    rw [List.foldl_cons, List.length_cons, Nat.pow_succ]
    refine Nat.lt_of_lt_of_le ih ?_
    rw [Nat.mul_comm (10 ^ cs.length) 10, ← Nat.mul_assoc]
    exact Nat.mul_le_mul_right _ (by omega)
theorem int_digits {cs : T} (h : NumText.AllDigits cs) (hne : cs ≠ []) (hl : cs.length ≤ 40) : ∃ v : Int, 0 ≤ v ∧ v < 10 ^ 40 ∧ biD .int [.str cs] = some (.int v) := by
  have e := intText_digits (x := ⟨cs.toArray⟩) h hne (by rw [SX_len]; omega)
  refine ⟨(NumText.digitsVal cs : Nat), by omega, ?_, ?_⟩
  · have b := digits_lt cs 0 h
    have b2 : NumText.digitsVal cs < 10 ^ 40 := by
      refine Nat.lt_of_lt_of_le (show NumText.digitsVal cs < (0 + 1) * 10 ^ cs.length from b) ?_
      rw [Nat.zero_add, Nat.one_mul]
      exact Nat.pow_le_pow_right (by decide) hl
    exact Int.ofNat_lt.mpr b2
  · have il : cs.length ≤ 640 := by omega
    show (if decide (cs.length ≤ 640) then (intText? ⟨cs.toArray⟩).map D.int else none) = _
    rw [decide_eq_true il, if_pos rfl, e]
    rfl
theorem idx_mem {xs : List D} {m : Nat} (h : m < xs.length) : ∃ d ∈ xs, idxD (.list xs) (.int (m : Int)) = some d := ⟨xs[m], List.getElem_mem h, idx_listE (List.getElem?_eq_getElem h)⟩
theorem f_lnu : Ga.fn "_law_number" = some b_law_number := by kernel_rfl
theorem drawn_at {vs : List Nat} (h : Drawn vs) {k : Nat} (hk : k < 60) : ∃ v : Nat, v ≤ 1008 ∧ idxD (.list (vs.map nD)) (.int (k : Int)) = some (.int (v : Int)) := by
  have hk : k < vs.length := by rw [h.1]; exact hk
  exact ⟨vs[k], h.2 _ (List.getElem_mem hk), idx_listE (by rw [List.getElem?_map, List.getElem?_eq_getElem hk]; rfl)⟩
end K77

namespace K77
open Cr PySem
def lnuBody : List S := match b_law_number.body with
  | [_, _, .for _ _ b, _, _] => b
  | _ => []
theorem dvN {a b : Nat} (h : 0 < b) (h2 : b < 1073741824) : binD .FloorDiv (.int (a : Int)) (.int (b : Int)) = some (.int ((a / b : Nat) : Int)) := by
  rw [div_int' (by omega) (by omega)]
  rfl
theorem mdN {a b : Nat} (h : 0 < b) : binD .Mod (.int (a : Int)) (.int (b : Int)) = some (.int ((a % b : Nat) : Int)) := by
  rw [mod_int' (by omega)]
  rfl
theorem adN {a b : Nat} : binD .Add (.int (a : Int)) (.int (b : Int)) = some (.int ((a + b : Nat) : Int)) := by
  rw [add_int]
  rfl
theorem lnu_step (n : Nat) {vs : List Nat} (hv : Drawn vs) (k j : Nat) (sz : W) (acc : T) (x y : Option W) (s : Store) (hl : acc.length ≤ 1000) :
    ∃ d, 48 ≤ d ∧ d ≤ 57 ∧ forBody (.name 4) (evSs (run Ga n) Ga.gl lnuBody) (.int (j : Int)) [some (.d (.list (vs.map nD))), some (.d (.int (k : Int))), some sz, some (.d (.str acc)), x, y] s =
      .ok .next [some (.d (.list (vs.map nD))), some (.d (.int (k : Int))), some sz, some (.d (.str (acc ++ [d]))), some (.d (.int (j : Int))), y] s := by
  have e1 : binD .Add (.int (k : Int)) (.int (j : Int)) = some (.int ((k + j : Nat) : Int)) := adN
  have e2 : binD .Mod (.int ((k + j : Nat) : Int)) (.int 60) = some (.int (((k + j) % 60 : Nat) : Int)) := mdN (b := 60) (by decide)
  obtain ⟨v, hv1, e3⟩ := drawn_at hv (k := (k + j) % 60) (Nat.mod_lt _ (by decide))
  have e4 : binD .Mod (.int (j : Int)) (.int 7) = some (.int ((j % 7 : Nat) : Int)) := mdN (b := 7) (by decide)
  have e5 : binD .Add (.int 1) (.int ((j % 7 : Nat) : Int)) = some (.int ((1 + j % 7 : Nat) : Int)) := adN (a := 1)
  have e6 : binD .FloorDiv (.int (v : Int)) (.int ((1 + j % 7 : Nat) : Int)) = some (.int ((v / (1 + j % 7) : Nat) : Int)) := dvN (by omega) (by omega)
  have e7 : binD .Add (.int ((v / (1 + j % 7) : Nat) : Int)) (.int (j : Int)) = some (.int ((v / (1 + j % 7) + j : Nat) : Int)) := adN
  have e8 : binD .Mod (.int ((v / (1 + j % 7) + j : Nat) : Int)) (.int 10) = some (.int (((v / (1 + j % 7) + j) % 10 : Nat) : Int)) := mdN (b := 10) (by decide)
  have dl : (v / (1 + j % 7) + j) % 10 < 10 := Nat.mod_lt _ (by decide)
  generalize (v / (1 + j % 7) + j) % 10 = d at e8 dl
  generalize v / (1 + j % 7) + j = m6 at e7 e8
  generalize v / (1 + j % 7) = m5 at e6 e7
  generalize 1 + j % 7 = m4 at e5 e6
  generalize j % 7 = m3 at e4 e5
  generalize (k + j) % 60 = m2 at e2 e3
  generalize k + j = m1 at e1 e2
  have e9 := str_digit dl
  have e10 : binD .Add (.str acc) (.str [48 + d]) = some (.str (acc ++ [48 + d])) := add_str (by simp; omega)
  refine ⟨48 + d, by omega, by omega, ?_⟩
  unfold forBody
  simp only [bindPt_name, setVar_s, setVar_0]
  simp [lnuBody, b_law_number, -add_int, e1, e2, e3, e4, e5, e6, e7, e8, e9, e10]
theorem lnu_loop (n : Nat) {vs : List Nat} (hv : Drawn vs) (k : Nat) (sz : W) : ∀ (ks : List Nat) (acc : T) (x y : Option W) (s : Store), NumText.AllDigits acc → acc.length + ks.length ≤ 40 →
    ∃ (acc' : T) (x' : Option W), NumText.AllDigits acc' ∧ acc'.length = acc.length + ks.length ∧ forLoop (forBody (.name 4) (evSs (run Ga n) Ga.gl lnuBody)) (ks.map nD) [some (.d (.list (vs.map nD))), some (.d (.int (k : Int))), some sz, some (.d (.str acc)), x, y] s =
      .ok .next [some (.d (.list (vs.map nD))), some (.d (.int (k : Int))), some sz, some (.d (.str acc')), x', y] s
  | [], acc, x, y, s, h, hl => ⟨acc, x, h, rfl, by simp [forLoop]⟩
  | j :: ks, acc, x, y, s, h, hl => by
    have hl : acc.length + (ks.length + 1) ≤ 40 := hl
    obtain ⟨d, h1, h2, e⟩ := lnu_step n hv k j sz acc x y s (by omega)
    obtain ⟨acc', x', g1, g2, e2⟩ := lnu_loop n hv k sz ks (acc ++ [d]) (some (.d (.int (j : Int)))) y s (fun c hc => by
      rcases List.mem_append.mp hc with hc | hc
      · exact h c hc
      · have : c = d := by simpa using hc
        omega) (by simp; omega)
    refine ⟨acc', x', g1, by rw [g2]; simp; omega, ?_⟩
    rw [List.map_cons, forLoop, e]
    exact e2
theorem pow39 : binD .Pow (.int 10) (.int 39) = some (.int (10 ^ 39)) := by rfl
theorem pow40 : binD .Pow (.int 10) (.int 40) = some (.int (10 ^ 40)) := by rfl
theorem law_number_run (n : Nat) {vs : List Nat} (hv : Drawn vs) (k : Nat) (hk : k + 3 < 60) : ∃ N : Int, Sm N ∧ pcall (run Ga (n + 1)) "_law_number" [.d (.list (vs.map nD)), .d (.int (k : Int))] = M.pure (.int N) := by
  obtain ⟨v0, _, i0⟩ := drawn_at hv (k := k) (by omega)
  obtain ⟨v1, _, i1⟩ := drawn_at hv (k := k + 1) (by omega)
  obtain ⟨v2, _, i2⟩ := drawn_at hv (k := k + 2) (by omega)
  obtain ⟨v3, _, i3⟩ := drawn_at hv (k := k + 3) (by omega)
  have i1 : idxD (.list (vs.map nD)) (.int ((k : Int) + 1)) = some (.int (v1 : Int)) := i1
  have i2 : idxD (.list (vs.map nD)) (.int ((k : Int) + 2)) = some (.int (v2 : Int)) := i2
  have i3 : idxD (.list (vs.map nD)) (.int ((k : Int) + 3)) = some (.int (v3 : Int)) := i3
  -- the size
  have a1 : binD .Mod (.int (v0 : Int)) (.int 40) = some (.int ((v0 % 40 : Nat) : Int)) := mdN (b := 40) (by decide)
  have a2 : binD .FloorDiv (.int (v0 : Int)) (.int 41) = some (.int ((v0 / 41 : Nat) : Int)) := dvN (b := 41) (by decide) (by decide)
  have a3 : binD .Mod (.int ((v0 / 41 : Nat) : Int)) (.int 4) = some (.int ((v0 / 41 % 4 : Nat) : Int)) := mdN (b := 4) (by decide)
  obtain ⟨sz, z1, z2, a4⟩ : ∃ sz : Nat, 1 ≤ sz ∧ sz ≤ 40 ∧ idxD (.list [.int (1 + ((v0 % 40 : Nat) : Int)), .int 40, .int 1, .int 3]) (.int ((v0 / 41 % 4 : Nat) : Int)) = some (.int (sz : Int)) := by
    obtain ⟨d, hd, e⟩ := idx_mem (xs := [.int (1 + ((v0 % 40 : Nat) : Int)), .int 40, .int 1, .int 3]) (m := v0 / 41 % 4) (Nat.mod_lt _ (by decide))
    rw [e]
    simp only [List.mem_cons, List.not_mem_nil, or_false] at hd
    rcases hd with rfl | rfl | rfl | rfl
    · exact ⟨1 + v0 % 40, by omega, by have := Nat.mod_lt v0 (show 40 > 0 by decide); omega, rfl⟩
    · exact ⟨40, by decide, by decide, rfl⟩
    · exact ⟨1, by decide, by decide, rfl⟩
    · exact ⟨3, by decide, by decide, rfl⟩
  generalize v0 / 41 % 4 = w3 at a3 a4
  generalize v0 / 41 = w2 at a2 a3
  generalize v0 % 40 = w1 at a1 a4
  -- the figures
  have b1 : binD .Mod (.int (v1 : Int)) (.int 9) = some (.int ((v1 % 9 : Nat) : Int)) := mdN (b := 9) (by decide)
  have b2 : biD .str [.int (1 + ((v1 % 9 : Nat) : Int))] = some (.str [48 + (1 + v1 % 9)]) := str_digit (d := 1 + v1 % 9) (by have := Nat.mod_lt v1 (show 9 > 0 by decide); omega)
  have b3 : 49 ≤ 48 + (1 + v1 % 9) ∧ 48 + (1 + v1 % 9) ≤ 57 := by have := Nat.mod_lt v1 (show 9 > 0 by decide); omega
  generalize 48 + (1 + v1 % 9) = c0 at b2 b3
  generalize v1 % 9 = w4 at b1 b2
  have rg : rangeD [.int ((sz : Int) - 1)] = some ((List.range (sz - 1)).map nD) := by
    have e : (sz : Int) - 1 = ((sz - 1 : Nat) : Int) := by omega
    rw [e]
    exact range1' (by omega)
  obtain ⟨fig, x', g1, g2, lp⟩ := lnu_loop n hv k (.d (.int (sz : Int))) (List.range (sz - 1)) [c0] none none [] (fun c hc => by
    have : c = c0 := by simpa using hc
    omega) (by simp; omega)
  obtain ⟨v, p1, p2, hi⟩ := int_digits g1 (by intro z; rw [z] at g2; simp at g2; omega) (by rw [g2]; simp; omega)
  -- the value
  have c1 : binD .Mod (.int (v2 : Int)) (.int 5) = some (.int ((v2 % 5 : Nat) : Int)) := mdN (b := 5) (by decide)
  obtain ⟨u, u1, u2, c2⟩ : ∃ u : Int, 0 ≤ u ∧ u < 10 ^ 40 ∧ idxD (.list [.int v, .int (10 ^ 39), .int 0, .int (10 ^ 40 - 1), .int v]) (.int ((v2 % 5 : Nat) : Int)) = some (.int u) := by
    obtain ⟨d, hd, e⟩ := idx_mem (xs := [.int v, .int (10 ^ 39), .int 0, .int (10 ^ 40 - 1), .int v]) (m := v2 % 5) (Nat.mod_lt _ (by decide))
    rw [e]
    simp only [List.mem_cons, List.not_mem_nil, or_false] at hd
    rcases hd with rfl | rfl | rfl | rfl | rfl
    · exact ⟨v, p1, p2, rfl⟩
    · exact ⟨10 ^ 39, by decide, by decide, rfl⟩
    · exact ⟨0, by decide, by decide, rfl⟩
    · exact ⟨10 ^ 40 - 1, by decide, by decide, rfl⟩
    · exact ⟨v, p1, p2, rfl⟩
  generalize v2 % 5 = w5 at c1 c2
  have d1 : binD .Mod (.int (v3 : Int)) (.int 2) = some (.int ((v3 % 2 : Nat) : Int)) := mdN (b := 2) (by decide)
  obtain ⟨N, sm, d2⟩ : ∃ N : Int, Sm N ∧ idxD (.list [.int u, .int (0 - u)]) (.int ((v3 % 2 : Nat) : Int)) = some (.int N) := by
    have su : Sm u := by
      have : ((u.natAbs : Nat) : Int) < ((10 ^ 40 : Nat) : Int) := by
        have e : ((10 ^ 40 : Nat) : Int) = 10 ^ 40 := by decide
        omega
      exact Int.ofNat_lt.mp this
    obtain ⟨d, hd, e⟩ := idx_mem (xs := [.int u, .int (0 - u)]) (m := v3 % 2) (Nat.mod_lt _ (by decide))
    rw [e]
    simp only [List.mem_cons, List.not_mem_nil, or_false] at hd
    rcases hd with rfl | rfl
    · exact ⟨u, su, rfl⟩
    · exact ⟨0 - u, by unfold Sm; rw [show (0 - u).natAbs = u.natAbs by omega]; exact su, rfl⟩
  generalize v3 % 2 = w6 at d1 d2
  refine ⟨N, sm, pcall2 (st := []) ?_⟩
  rw [run_fn f_lnu rfl]
  have lp : forLoop _ _ _ _ = _ := lp
  simp only [lnuBody, b_law_number] at lp
  have ez : binD .Sub (.int 0) (.int u) = some (.int (0 - u)) := rfl
  have e40 : binD .Sub (.int (10 ^ 40)) (.int 1) = some (.int (10 ^ 40 - 1)) := rfl
  have es : binD .Sub (.int (sz : Int)) (.int 1) = some (.int ((sz : Int) - 1)) := rfl
  have f1 : binD .Add (.int 1) (.int (w1 : Int)) = some (.int (1 + (w1 : Int))) := rfl
  have f4 : binD .Add (.int 1) (.int (w4 : Int)) = some (.int (1 + (w4 : Int))) := rfl
  have k1 : binD .Add (.int (k : Int)) (.int 1) = some (.int ((k : Int) + 1)) := rfl
  have k2 : binD .Add (.int (k : Int)) (.int 2) = some (.int ((k : Int) + 2)) := rfl
  have k3 : binD .Add (.int (k : Int)) (.int 3) = some (.int ((k : Int) + 3)) := rfl
  have q39 := pow39
  have q40 := pow40
  generalize (0 : Int) - u = nu at ez d2
  generalize (10 : Int) ^ 40 - 1 = P41 at e40 c2
  generalize (10 : Int) ^ 39 = P39 at q39 c2
  generalize (10 : Int) ^ 40 = P40 at q40 e40
  simp [b_law_number, -add_int, -sub_int, i0, i1, i2, i3, a1, a2, a3, a4, b1, b2, c1, c2, d1, d2, ez, e40, es, f1, f4, k1, k2, k3, q39, q40, rg]
  rw [lp]
  simp [b_law_number, -add_int, -sub_int, i0, i1, i2, i3, a1, a2, a3, a4, b1, b2, c1, c2, d1, d2, ez, e40, es, f1, f4, k1, k2, k3, q39, q40, rg, hi]
end K77

namespace K77
open Cr PySem
@[simp] theorem smF_nil (acc : List Nat) (ρ : Cr.Env) : smF [] acc ρ = M.pure acc := (rfl)
@[simp] theorem smF_cons (e : Cr.Sm) (es : List Cr.Sm) (acc : List Nat) (ρ : Cr.Env) : smF (e :: es) acc ρ = M.bind (e.v ρ) fun w => M.bind (peek w) fun x => M.bind (lift (strD x)) fun s => M.bind (catC acc s) fun acc => smF es acc ρ := (rfl)
@[simp] theorem strD_str (x : List Nat) : strD (.str x) = some x := (rfl)
theorem catC_eq {acc x : List Nat} (h : acc.length + x.length ≤ 16777216) : catC acc x = M.pure (acc ++ x) := by
  funext s
  unfold catC
  rw [if_pos (fits_of h)]
  rfl
theorem f_sw : Ga.fn "show_wholes" = some b_show_wholes := by kernel_rfl
theorem f_sp : Ga.fn "show_pairs" = some b_show_pairs := by kernel_rfl
def wholesT (L : List Int) : T := if L = [] then [45] else joinC [32] (L.map sg)
def pg (p : Int × Int) : T := sg p.1 ++ [44] ++ sg p.2
def pairsT (P : List (Int × Int)) : T := if P = [] then [45] else joinC [32] (P.map pg)
def pD (p : Int × Int) : D := .tup [.int p.1, .int p.2]
theorem joinC_len (parts : List (List Nat)) (c : Nat) (B : Nat) (h : ∀ p ∈ parts, p.length ≤ B) : (joinC [c] parts).length ≤ parts.length * (B + 1) := by
  induction parts with
  | nil => simp [joinC, TL.joinL]
  | cons p ps ih =>
    cases ps with
    | nil =>
      have := h p (by simp)
      simp [joinC, TL.joinL]
      omega
    | cons q r =>
      have ih := ih fun x hx => h x (by simp [hx])
      have h0 := h p (by simp)
      unfold joinC at ih ⊢
      rw [TL.joinL]
      simp only [List.length_append, List.length_cons, List.length_nil] at ih ⊢
      rw [Nat.add_mul]
      omega
theorem sum_le (parts : List (List Nat)) (B : Nat) (h : ∀ p ∈ parts, p.length ≤ B) : (parts.map (·.length)).sum ≤ parts.length * B := by
  induction parts with
  | nil => simp
  | cons p ps ih =>
    have := ih fun x hx => h x (by simp [hx])
    have := h p (by simp)
    rw [List.map_cons, List.sum_cons, List.length_cons, Nat.add_mul]
    omega
theorem join_sm {c : Nat} {parts : List (List Nat)} (hl : parts.length ≤ 100) (h : ∀ p ∈ parts, p.length ≤ 100) : mtD .join (.str [c]) [.list (parts.map .str)] = some (.str (joinC [c] parts)) := join_E (by
  have q := sum_le parts 100 h
  rw [List.length_singleton]
  omega)
theorem sgs_len {L : List Int} (h : ∀ i ∈ L, Sm i) : ∀ p ∈ L.map sg, p.length ≤ 41 := fun p hp => by
  obtain ⟨i, hi, rfl⟩ := List.mem_map.mp hp
  exact sg_len (h i hi)
theorem pgs_len {P : List (Int × Int)} (h : ∀ p ∈ P, Sm p.1 ∧ Sm p.2) : ∀ p ∈ P.map pg, p.length ≤ 83 := fun p hp => by
  obtain ⟨q, hq, rfl⟩ := List.mem_map.mp hp
  have h1 := sg_len (h q hq).1
  have h2 := sg_len (h q hq).2
  unfold pg
  simp
  omega
theorem show_wholes_run (n : Nat) (L : List Int) (hl : L.length ≤ 100) (h : ∀ i ∈ L, Sm i) (s : Store) : run Ga (n + 1) "show_wholes" [.d (.list (L.map .int))] s = .ok (.d (.str (wholesT L))) s := by
  rw [run_fn f_sw rfl]
  simp [b_show_wholes]
  rw [lc_g D.int (fun i => .str (sg i)) (fun i hi => by simp [lcBody_eq, str_sg (h i hi)]) (by omega)]
  have je := join_sm (c := 32) (parts := L.map sg) (by simpa using hl) (fun p hp => by have := sgs_len h p hp; omega)
  rw [List.map_map] at je
  have je : mtD .join (.str [32]) [.list (L.map fun i => .str (sg i))] = some (.str (joinC [32] (L.map sg))) := je
  unfold wholesT
  by_cases e : L = []
  · simp [e]
  · simp [e, je]
theorem show_pairs_run (n : Nat) (P : List (Int × Int)) (hl : P.length ≤ 100) (h : ∀ p ∈ P, Sm p.1 ∧ Sm p.2) (s : Store) : run Ga (n + 1) "show_pairs" [.d (.list (P.map pD))] s = .ok (.d (.str (pairsT P))) s := by
  rw [run_fn f_sp rfl]
  simp [b_show_pairs]
  rw [lc_g pD (fun p => .str (pg p)) (fun p hp => by
    obtain ⟨h1, h2⟩ := h p hp
    have l1 := sg_len h1
    have l2 := sg_len h2
    simp [lcBody_eq, pD, fmt_sg h1, fmt_sg h2, catC_eq (acc := []) (x := sg p.1) (by simp; omega), catC_eq (acc := sg p.1) (x := [44]) (by simp; omega), catC_eq (acc := sg p.1 ++ [44]) (x := sg p.2) (by simp; omega), pg]) (by omega)]
  have je := join_sm (c := 32) (parts := P.map pg) (by simpa using hl) (fun p hp => by have := pgs_len h p hp; omega)
  rw [List.map_map] at je
  have je : mtD .join (.str [32]) [.list (P.map fun i => .str (pg i))] = some (.str (joinC [32] (P.map pg))) := je
  unfold pairsT
  by_cases e : P = []
  · simp [e]
  · simp [e, je]
theorem sg_ne (i : Int) : sg i ≠ [45] := by
  unfold sg
  split
  · have := TL.numL_ne i.natAbs
    simp [this]
  · intro h
    have := TL.numL_digits i.natAbs 45 (by rw [h]; simp)
    omega
theorem split_wholes {L : List Int} (hne : L ≠ []) : splitC [32] (joinC [32] (L.map sg)) = L.map sg := TL.spl_join (by simpa using hne) fun p hp => by
  obtain ⟨i, _, rfl⟩ := List.mem_map.mp hp
  exact sg_free (by decide)
theorem split45 : splitC [32] [45] = [[45]] := by rfl
theorem wholes_ne {L : List Int} (hne : L ≠ []) : joinC [32] (L.map sg) ≠ [45] := fun e => by
  have := split_wholes hne
  rw [e, split45] at this
  cases L with
  | nil => exact hne rfl
  | cons i r =>
    have : [45] = sg i := by simpa using (List.cons.inj this).1
    exact sg_ne i this.symm
theorem rwL_wholes {L : List Int} (h : ∀ i ∈ L, Sm i) : rwL (wholesT L) = L.map .int ∧ ¬ (wholesT L ≠ [45] ∧ badW (wholesT L) = true) := by
  unfold wholesT
  by_cases e : L = []
  · subst e
    simp [rwL]
  · rw [if_neg e]
    constructor
    · unfold rwL
      rw [if_neg (wholes_ne e), split_wholes e, List.map_map]
      exact List.map_congr_left fun i hi => valW_sg (h i hi)
    · rintro ⟨_, hb⟩
      unfold badW at hb
      rw [split_wholes e, List.any_map] at hb
      obtain ⟨i, hi, hb⟩ := List.any_eq_true.mp hb
      have := okW_sg (h i hi)
      simp [this] at hb
theorem split_pair {p : Int × Int} : splitC [44] (pg p) = [sg p.1, sg p.2] := by
  have := TL.spl_join (s := 44) (S := []) (parts := [sg p.1, sg p.2]) (by simp) (fun q hq => by
    simp only [List.mem_cons, List.not_mem_nil, or_false] at hq
    rcases hq with rfl | rfl
    · exact sg_free (by decide)
    · exact sg_free (by decide))
  have e : TL.joinL [44] [sg p.1, sg p.2] = pg p := by
    unfold pg
    rw [TL.joinL, TL.joinL, List.append_assoc]
  rw [e] at this
  exact this
theorem pairV_pg {p : Int × Int} (h1 : Sm p.1) (h2 : Sm p.2) : pairV (pg p) = pD p := by
  unfold pairV
  rw [split_pair]
  simp [okW_sg h1, okW_sg h2, valW_sg h1, valW_sg h2, pD]
theorem split_pairs {P : List (Int × Int)} (hne : P ≠ []) : splitC [32] (joinC [32] (P.map pg)) = P.map pg := TL.spl_join (by simpa using hne) fun p hp => by
  obtain ⟨q, _, rfl⟩ := List.mem_map.mp hp
  unfold pg
  have a := sg_free (i := q.1) (s := 32) (by decide)
  have b := sg_free (i := q.2) (s := 32) (by decide)
  simp [a, b]
theorem pairs_ne {P : List (Int × Int)} (hne : P ≠ []) : joinC [32] (P.map pg) ≠ [45] := fun e => by
  have := split_pairs hne
  rw [e, split45] at this
  cases P with
  | nil => exact hne rfl
  | cons q r =>
    have : [45] = pg q := by simpa using (List.cons.inj this).1
    have m : 44 ∈ pg q := by simp [pg]
    rw [← this] at m
    simp at m
theorem pairsV_pairs {P : List (Int × Int)} (h : ∀ p ∈ P, Sm p.1 ∧ Sm p.2) : pairsV (pairsT P) = .list (P.map pD) := by
  unfold pairsT
  by_cases e : P = []
  · subst e
    simp [pairsV, rpL]
  · rw [if_neg e]
    have hb : badP (joinC [32] (P.map pg)) = false := by
      unfold badP
      rw [split_pairs e, List.any_map, Bool.eq_false_iff]
      intro hb
      obtain ⟨q, hq, hb⟩ := List.any_eq_true.mp hb
      have e2 := pairV_pg (h q hq).1 (h q hq).2
      have hb : isNon (pairV (pg q)) = true := hb
      rw [e2] at hb
      cases hb
    unfold pairsV
    rw [if_neg (by rw [hb]; simp)]
    unfold rpL
    rw [if_neg (pairs_ne e), split_pairs e, List.map_map]
    congr 1
    exact List.map_congr_left fun q hq => pairV_pg (h q hq).1 (h q hq).2
end K77

namespace K77
open Cr PySem
theorem hexT_cons (c : Nat) (t : T) : hexT (c :: t) = hx (SG.idxOf c / 16) :: hx (SG.idxOf c % 16) :: hexT t := rfl
theorem hexT_get : ∀ (t : T) (k : Nat), k < t.length → (hexT t).getD (2 * k) 0 = hx (SG.idxOf (t.getD k 0) / 16) ∧ (hexT t).getD (2 * k + 1) 0 = hx (SG.idxOf (t.getD k 0) % 16)
  | [], _, h => by simp at h
  | c :: t, 0, _ => ⟨rfl, rfl⟩
  | c :: t, k + 1, h => by
    have ih := hexT_get t k (by simpa using h)
    rw [hexT_cons]
    have e1 : 2 * (k + 1) = (2 * k) + 2 := by omega
    have e2 : 2 * (k + 1) + 1 = (2 * k + 1) + 2 := by omega
    rw [e1]
    exact ih
theorem hx_idx : ∀ m, m < 16 → HX.idxOf (hx m) = m ∧ hx m ∈ HX := by decide
theorem sgn_idx {c : Nat} (h : c ∈ SG) : sgn (SG.idxOf c) = c := by
  have hl := List.idxOf_lt_length_iff.mpr h
  unfold sgn
  rw [List.getD_eq_getElem?_getD, List.getElem?_eq_getElem hl]
  exact List.getElem_idxOf hl
theorem vK_hexT {t : T} (hs : ∀ c ∈ t, c ∈ SG) {k : Nat} (hk : k < t.length) : vK (hexT t) k = SG.idxOf (t.getD k 0) := by
  obtain ⟨h1, h2⟩ := hexT_get t k hk
  have hc : t.getD k 0 ∈ SG := hs _ (by rw [List.getD_eq_getElem?_getD, List.getElem?_eq_getElem hk]; exact List.getElem_mem hk)
  have q := idx_SG hc
  unfold vK
  rw [h1, h2, (hx_idx _ (by omega)).1, (hx_idx _ (by omega)).1]
  omega
theorem hexIn_hexT {t : T} (hs : ∀ c ∈ t, c ∈ SG) : hexIn (hexT t) = true := by
  refine List.all_eq_true.mpr fun c hc => ?_
  unfold hexT at hc
  obtain ⟨l, hl, hc⟩ := List.mem_flatten.mp hc
  obtain ⟨d, hd, rfl⟩ := List.mem_map.mp hl
  have q := idx_SG (hs d hd)
  simp only [hexP, List.mem_cons, List.not_mem_nil, or_false] at hc
  rcases hc with rfl | rfl
  · exact decide_eq_true (hx_idx _ (by omega)).2
  · exact decide_eq_true (hx_idx _ (by omega)).2
theorem textV_showT {t : T} (hs : ∀ c ∈ t, c ∈ SG) : textV (showT t) = .str t := by
  unfold showT
  by_cases h0 : t = []
  · subst h0
    simp [textV]
  · rw [if_neg h0]
    have hl := hexT_len t
    have h45 : hexT t ≠ [45] := fun e => by
      rw [e] at hl
      simp at hl
      omega
    have ok : okX (hexT t) = true := by
      unfold okX
      rw [hexIn_hexT hs, hl]
      have : (hexT t).isEmpty = false := by
        cases e : hexT t with
        | nil => exact absurd (hexT_nil.mp e) h0
        | cons _ _ => rfl
      rw [this]
      simp
    have half : (hexT t).length / 2 = t.length := by omega
    have hb : badX (hexT t) = false := by
      unfold badX
      rw [half, Bool.eq_false_iff]
      intro hb
      obtain ⟨k, hk, hb⟩ := List.any_eq_true.mp hb
      have hk := List.mem_range.mp hk
      have e := vK_hexT hs hk
      have hc : t.getD k 0 ∈ SG := hs _ (by rw [List.getD_eq_getElem?_getD, List.getElem?_eq_getElem hk]; exact List.getElem_mem hk)
      have q := idx_SG hc
      rw [e] at hb
      simp [q, -List.getD_eq_getElem?_getD] at hb
    unfold textV
    rw [if_neg h45, if_pos ok, hb, half]
    simp only [Bool.false_eq_true, if_false]
    congr 1
    refine List.ext_getElem (by simp) fun k h1 h2 => ?_
    rw [List.getElem_map, List.getElem_range, vK_hexT hs h2]
    have e : t.getD k 0 = t[k] := by
      rw [List.getD_eq_getElem?_getD, List.getElem?_eq_getElem h2]
      rfl
    rw [e]
    exact sgn_idx (hs _ (List.getElem_mem h2))
theorem SG_asc : ∀ c ∈ SG, c < 1114112 := by decide
theorem HX_asc : ∀ c ∈ HX, c < 1114112 := by decide
theorem wholesT_asc (L : List Int) : Asc (wholesT L) := by
  have go : ∀ parts : List (List Nat), (∀ p ∈ parts, Asc p) → Asc (joinC [32] parts) := by
    intro parts
    induction parts with
    | nil => intro _ c hc; simp [joinC, TL.joinL] at hc
    | cons p ps ih =>
      intro h
      cases ps with
      | nil =>
        have := h p (by simp)
        simpa [joinC, TL.joinL] using this
      | cons q r =>
        have i2 := ih fun x hx => h x (by simp [hx])
        have h0 := h p (by simp)
        unfold joinC at i2 ⊢
        rw [TL.joinL]
        intro c hc
        rcases List.mem_append.mp hc with hc | hc
        · exact h0 c hc
        · rcases List.mem_append.mp hc with hc | hc
          · have : c = 32 := by simpa using hc
            omega
          · exact i2 c hc
  unfold wholesT
  split
  · intro c hc
    have : c = 45 := by simpa using hc
    omega
  · exact go _ fun p hp => by
      obtain ⟨i, _, rfl⟩ := List.mem_map.mp hp
      exact sg_asc i
theorem pg_asc (p : Int × Int) : Asc (pg p) := fun c hc => by
  unfold pg at hc
  rcases List.mem_append.mp hc with hc | hc
  · rcases List.mem_append.mp hc with hc | hc
    · exact sg_asc _ c hc
    · have : c = 44 := by simpa using hc
      omega
  · exact sg_asc _ c hc
theorem join_asc : ∀ parts : List (List Nat), (∀ p ∈ parts, Asc p) → Asc (joinC [32] parts) := by
  intro parts
  induction parts with
  | nil => intro _ c hc; simp [joinC, TL.joinL] at hc
  | cons p ps ih =>
    intro h
    cases ps with
    | nil =>
      have := h p (by simp)
      simpa [joinC, TL.joinL] using this
    | cons q r =>
      have i2 := ih fun x hx => h x (by simp [hx])
      have h0 := h p (by simp)
      unfold joinC at i2 ⊢
      rw [TL.joinL]
      intro c hc
      rcases List.mem_append.mp hc with hc | hc
      · exact h0 c hc
      · rcases List.mem_append.mp hc with hc | hc
        · have : c = 32 := by simpa using hc
          omega
        · exact i2 c hc
theorem pairsT_asc (P : List (Int × Int)) : Asc (pairsT P) := by
  unfold pairsT
  split
  · intro c hc
    have : c = 45 := by simpa using hc
    omega
  · exact join_asc _ fun p hp => by
      obtain ⟨q, _, rfl⟩ := List.mem_map.mp hp
      exact pg_asc q
theorem showT_asc {t : T} (hs : ∀ c ∈ t, c ∈ SG) : Asc (showT t) := by
  unfold showT
  split
  · intro c hc
    have : c = 45 := by simpa using hc
    omega
  · intro c hc
    have := List.all_eq_true.mp (hexIn_hexT hs) c hc
    exact HX_asc c (of_decide_eq_true this)
theorem wholesT_len {L : List Int} (hl : L.length ≤ 50) (h : ∀ i ∈ L, Sm i) : (wholesT L).length ≤ 5000 := by
  unfold wholesT
  split
  · simp
  · have q := joinC_len (L.map sg) 32 41 (sgs_len h)
    rw [List.length_map] at q
    omega
theorem pairsT_len {P : List (Int × Int)} (hl : P.length ≤ 50) (h : ∀ p ∈ P, Sm p.1 ∧ Sm p.2) : (pairsT P).length ≤ 5000 := by
  unfold pairsT
  split
  · simp
  · have q := joinC_len (P.map pg) 32 83 (pgs_len h)
    rw [List.length_map] at q
    omega
theorem showT_len {t : T} (h : t.length ≤ 2000) : (showT t).length ≤ 5000 := by
  unfold showT
  split
  · simp
  · rw [hexT_len]
    omega
end K77

namespace K77
open Cr PySem
theorem f_law : Ga.fn "law" = some b_law := by kernel_rfl
theorem bi_bool (b : Bool) : biD .int [.bool b] = some (.int (if b then 1 else 0)) := rfl
theorem ints_good (L : List Int) : (L.map D.int).all (D.good 1) = true := List.all_eq_true.mpr fun x hx => by
  obtain ⟨i, _, rfl⟩ := List.mem_map.mp hx
  rfl
theorem pairs_good (P : List (Int × Int)) : (P.map pD).all (D.good 2) = true := List.all_eq_true.mpr fun x hx => by
  obtain ⟨i, _, rfl⟩ := List.mem_map.mp hx
  simp [pD, D.good]
theorem eq_ints (L : List Int) : cmpD .Eq (.list (L.map .int)) (.list []) = some (decide (L = [])) := by
  rw [eq_nilE (n := 1) (by decide) (ints_good L)]
  cases L <;> simp
theorem eq_pairs (P : List (Int × Int)) : cmpD .Eq (.list (P.map pD)) (.list []) = some (decide (P = [])) := by
  rw [eq_nilE (n := 2) (by decide) (pairs_good P)]
  cases P <;> simp
/-- what the law works with -/
structure Mat where
  vs : List Nat
  ws : List Nat
  L : List Int
  P : List (Int × Int)
  t : T
structure Mat.Ok (m : Mat) : Prop where
  v : Drawn m.vs
  l : m.L.length ≤ 9 ∧ ∀ i ∈ m.L, Sm i
  p : m.P.length ≤ 9 ∧ ∀ p ∈ m.P, Sm p.1 ∧ Sm p.2
  t : m.t.length ≤ 300 ∧ ∀ c ∈ m.t, c ∈ SG
def Mat.env (m : Mat) (sc : W) (many : Int) (o1 o2 o3 : Option W) : Cr.Env := [some sc, some (.d (.list (m.vs.map nD))), some (.d (.list (m.ws.map nD))), some (.d (.list (m.L.map .int))), some (.d (.list (m.P.map pD))), some (.d (.int many)), some (.d (.str m.t)), some (.d (.str (wholesT m.L))), some (.d (.str (pairsT m.P))), some (.d (.list (m.L.map .int))), none, none, none, o1, o2, o3]
theorem stage1 (n : Nat) (ns : List Int) (k : Cr.Env → Store → SR) : ∃ (m : Mat) (many : Int) (o1 o2 o3 : Option W), m.Ok ∧ andS (evSs (run Ga (n + 6)) Ga.gl (b_law.body.take 11) (startE 16 [.d (.rol (ns.map .int))]) []) k = k (m.env (.d (.rol (ns.map .int))) many o1 o2 o3) [] := by
  obtain ⟨vs, hv, rv⟩ := law_numbers_run (n + 5) ns 0 (by decide)
  obtain ⟨ws, hw, rw'⟩ := law_numbers_run (n + 5) ns 1 (by decide)
  have rv : pcall (run Ga (n + 6)) "_law_numbers" [.d (.rol (ns.map .int)), .d (.int 0), .d (.int 60)] = M.pure (.list (vs.map nD)) := rv
  have rw' : pcall (run Ga (n + 6)) "_law_numbers" [.d (.rol (ns.map .int)), .d (.int 1), .d (.int 60)] = M.pure (.list (ws.map nD)) := rw'
  have numV : ∀ k : Nat, ∃ N : Int, k + 3 < 60 → Sm N ∧ pcall (run Ga (n + 6)) "_law_number" [.d (.list (vs.map nD)), .d (.int (k : Int))] = M.pure (.int N) := fun k => by
    by_cases h : k + 3 < 60
    · obtain ⟨N, h1, h2⟩ := law_number_run (n + 5) hv k h
      exact ⟨N, fun _ => ⟨h1, h2⟩⟩
    · exact ⟨0, fun z => absurd z h⟩
  have numW : ∀ k : Nat, ∃ N : Int, k + 3 < 60 → Sm N ∧ pcall (run Ga (n + 6)) "_law_number" [.d (.list (ws.map nD)), .d (.int (k : Int))] = M.pure (.int N) := fun k => by
    by_cases h : k + 3 < 60
    · obtain ⟨N, h1, h2⟩ := law_number_run (n + 5) hw k h
      exact ⟨N, fun _ => ⟨h1, h2⟩⟩
    · exact ⟨0, fun z => absurd z h⟩
  obtain ⟨fv, hfv⟩ := Classical.axiomOfChoice numV
  obtain ⟨fw, hfw⟩ := Classical.axiomOfChoice numW
  obtain ⟨v50, _, i50⟩ := drawn_at hv (k := 50) (by decide)
  obtain ⟨v51, _, i51⟩ := drawn_at hv (k := 51) (by decide)
  obtain ⟨v52, _, i52⟩ := drawn_at hv (k := 52) (by decide)
  obtain ⟨v53, _, i53⟩ := drawn_at hv (k := 53) (by decide)
  obtain ⟨v54, l54, i54⟩ := drawn_at hv (k := 54) (by decide)
  have i50 : idxD (.list (vs.map nD)) (.int 50) = some (.int (v50 : Int)) := i50
  have i51 : idxD (.list (vs.map nD)) (.int 51) = some (.int (v51 : Int)) := i51
  have i52 : idxD (.list (vs.map nD)) (.int 52) = some (.int (v52 : Int)) := i52
  have i53 : idxD (.list (vs.map nD)) (.int 53) = some (.int (v53 : Int)) := i53
  have i54 : idxD (.list (vs.map nD)) (.int 54) = some (.int (v54 : Int)) := i54
  have a50 : binD .Mod (.int (v50 : Int)) (.int 9) = some (.int ((v50 % 9 : Nat) : Int)) := mdN (b := 9) (by decide)
  have l50 : v50 % 9 < 9 := Nat.mod_lt _ (by decide)
  generalize v50 % 9 = c1 at a50 l50
  have a51 : binD .Mod (.int (v51 : Int)) (.int 7) = some (.int ((v51 % 7 : Nat) : Int)) := mdN (b := 7) (by decide)
  have l51 : v51 % 7 < 7 := Nat.mod_lt _ (by decide)
  generalize v51 % 7 = c2 at a51 l51
  have r1 : rangeD [.int (c1 : Int)] = some ((List.range c1).map nD) := range1' (by omega)
  have r2 : rangeD [.int (c2 : Int)] = some ((List.range c2).map nD) := range1' (by omega)
  have a52 : binD .Mod (.int (v52 : Int)) (.int 31) = some (.int ((v52 % 31 : Nat) : Int)) := mdN (b := 31) (by decide)
  have l52 : v52 % 31 < 31 := Nat.mod_lt _ (by decide)
  generalize v52 % 31 = c3 at a52 l52
  have a53 : binD .Mod (.int (v53 : Int)) (.int 16) = some (.int ((v53 % 16 : Nat) : Int)) := mdN (b := 16) (by decide)
  generalize v53 % 16 = c4 at a53
  obtain ⟨many, hm, im⟩ : ∃ many : Nat, many ≤ 300 ∧ idxD (.list [.int (c3 : Int), .int 300]) (.int (if c4 = 0 then 1 else 0)) = some (.int (many : Int)) := by
    by_cases h : c4 = 0
    · rw [if_pos h]
      exact ⟨300, by decide, idx1L _ _ _⟩
    · rw [if_neg h]
      exact ⟨c3, by omega, idx0L _ _⟩
  have r3 : rangeD [.int (many : Int)] = some ((List.range many).map nD) := range1' (by omega)
  have m5 : ∀ k : Int, binD .Mult (.int 5) (.int k) = some (.int (5 * k)) := fun k => mulL (by decide)
  -- the lists
  have bl : ∀ k ∈ List.range c1, Sm (fv (5 * k)) ∧ pcall (run Ga (n + 6)) "_law_number" [.d (.list (vs.map nD)), .d (.int (5 * (k : Int)))] = M.pure (.int (fv (5 * k))) := fun k hk => by
    have := List.mem_range.mp hk
    exact hfv (5 * k) (by omega)
  have bp : ∀ k ∈ List.range c2, (Sm (fw (5 * k)) ∧ pcall (run Ga (n + 6)) "_law_number" [.d (.list (ws.map nD)), .d (.int (5 * (k : Int)))] = M.pure (.int (fw (5 * k)))) ∧ (Sm (fv (5 * k + 2)) ∧ pcall (run Ga (n + 6)) "_law_number" [.d (.list (vs.map nD)), .d (.int (5 * (k : Int) + 2))] = M.pure (.int (fv (5 * k + 2)))) := fun k hk => by
    have := List.mem_range.mp hk
    exact ⟨hfw (5 * k) (by omega), hfv (5 * k + 2) (by omega)⟩
  let L : List Int := (List.range c1).map fun k => fv (5 * k)
  let P : List (Int × Int) := (List.range c2).map fun k => (fw (5 * k), fv (5 * k + 2))
  have hLs : ∀ i ∈ L, Sm i := fun i hi => by
    obtain ⟨k, hk, rfl⟩ := List.mem_map.mp hi
    exact (bl k hk).1
  have hPs : ∀ p ∈ P, Sm p.1 ∧ Sm p.2 := fun p hp => by
    obtain ⟨k, hk, rfl⟩ := List.mem_map.mp hp
    exact ⟨(bp k hk).1.1, (bp k hk).2.1⟩
  have hLl : L.length ≤ 9 := by simp [L]; omega
  have hPl : P.length ≤ 9 := by simp [P]; omega
  have eL : (List.range c1).map (fun k => D.int (fv (5 * k))) = L.map D.int := by simp [L]
  have eP : (List.range c2).map (fun k => D.tup [.int (fw (5 * k)), .int (fv (5 * k + 2))]) = P.map pD := by simp [P, pD]
  -- the text
  have drW : ∀ k : Nat, ∃ u : Nat, idxD (.list (ws.map nD)) (.int ((k % 60 : Nat) : Int)) = some (.int (u : Int)) := fun k => by
    obtain ⟨u, _, e⟩ := drawn_at hw (k := k % 60) (Nat.mod_lt _ (by decide))
    exact ⟨u, e⟩
  obtain ⟨uf, huf⟩ := Classical.axiomOfChoice drW
  let tx : Nat → Nat := fun k => sgn ((uf k + k / 60 * v54 + k) % 95)
  have bt : ∀ ρ0 : List (Option W), ∀ k ∈ List.range many, lcBody (.name 14) [] (sem (run Ga (n + 6)) Ga.gl (.idx (.call false "_law_signs" []) (.bin false .Mod (.bin false .Add (.bin false .Add (.idx (.var 2) (.bin false .Mod (.var 14) (.con (.int 60)))) (.bin false .Mult (.bin false .FloorDiv (.var 14) (.con (.int 60))) (.idx (.var 1) (.con (.int 54))))) (.var 14)) (.con (.int 95)))))
      ([some (.d (.rol (ns.map .int))), some (.d (.list (vs.map nD))), some (.d (.list (ws.map nD))), some (.d (.list (L.map .int))), some (.d (.list (P.map pD))), some (.d (.int (many : Int))), none, none, none, none, none, none, none, none, none, none]) (nD k) = M.pure (some (.str [tx k])) := fun ρ0 k hk => by
    have hk := List.mem_range.mp hk
    have b1 : binD .Mod (.int (k : Int)) (.int 60) = some (.int ((k % 60 : Nat) : Int)) := mdN (b := 60) (by decide)
    have b2 := huf k
    have b3 : binD .FloorDiv (.int (k : Int)) (.int 60) = some (.int ((k / 60 : Nat) : Int)) := dvN (b := 60) (by decide) (by decide)
    have b4 : binD .Mult (.int ((k / 60 : Nat) : Int)) (.int (v54 : Int)) = some (.int ((k / 60 * v54 : Nat) : Int)) := by
      rw [mulL (small_m (by omega) (by omega))]
      rfl
    have b5 : binD .Add (.int ((uf k : Nat) : Int)) (.int ((k / 60 * v54 : Nat) : Int)) = some (.int ((uf k + k / 60 * v54 : Nat) : Int)) := adN
    have b6 : binD .Add (.int ((uf k + k / 60 * v54 : Nat) : Int)) (.int (k : Int)) = some (.int ((uf k + k / 60 * v54 + k : Nat) : Int)) := adN
    have b7 : binD .Mod (.int ((uf k + k / 60 * v54 + k : Nat) : Int)) (.int 95) = some (.int (((uf k + k / 60 * v54 + k) % 95 : Nat) : Int)) := mdN (b := 95) (by decide)
    have b8 : idxD (.str SG) (.int (((uf k + k / 60 * v54 + k) % 95 : Nat) : Int)) = some (.str [tx k]) := idx_sgn (Nat.mod_lt _ (by decide))
    generalize tx k = c at b8
    generalize (uf k + k / 60 * v54 + k) % 95 = q1 at b7 b8
    generalize uf k + k / 60 * v54 + k = q2 at b6 b7
    generalize uf k + k / 60 * v54 = q3 at b5 b6
    generalize uf k = q4 at b2 b5
    generalize k / 60 * v54 = q5 at b4 b5
    generalize k / 60 = q6 at b3 b4
    generalize k % 60 = q7 at b1 b2
    simp [lcBody_eq, -add_int, pcall0 (law_signs_run (n + 5) []), b1, b2, b3, b4, b5, b6, b7, b8, i54]
  let t : T := (List.range many).map tx
  have ht : t.length ≤ 300 ∧ ∀ c ∈ t, c ∈ SG := by
    refine ⟨by simp [t]; omega, fun c hc => ?_⟩
    obtain ⟨k, _, rfl⟩ := List.mem_map.mp hc
    have hl : (uf k + k / 60 * v54 + k) % 95 < SG.length := by rw [SG_len]; exact Nat.mod_lt _ (by decide)
    show SG.getD _ 0 ∈ SG
    rw [List.getD_eq_getElem?_getD, List.getElem?_eq_getElem hl]
    exact List.getElem_mem hl
  have jt : mtD .join (.str []) [.list ((List.range many).map fun k => .str [tx k])] = some (.str t) := by
    have je := join_E (sep := []) (ps := (List.range many).map fun k => [tx k]) (by
      have e : (((List.range many).map fun k => [tx k]).map (·.length)).sum = many := by
        rw [List.map_map]
        have : (List.length ∘ fun k => [tx k]) = fun (_ : Nat) => 1 := rfl
        show (List.map (List.length ∘ fun k => [tx k]) (List.range many)).sum = many
        rw [this, sum_ones, List.length_range]
      rw [e]
      simp
      omega)
    rw [joinC_nil, List.map_map] at je
    have fl : ((List.range many).map fun k => [tx k]).flatten = t := by
      show _ = (List.range many).map tx
      induction List.range many with
      | nil => rfl
      | cons k r ih => simp [ih]
    rw [fl] at je
    exact je
  -- the notes
  have jw := join_sm (c := 32) (parts := L.map sg) (by simp; omega) (fun p hp => by have := sgs_len hLs p hp; omega)
  have jp := join_sm (c := 32) (parts := P.map pg) (by simp; omega) (fun p hp => by have := pgs_len hPs p hp; omega)
  rw [List.map_map] at jw jp
  have jw : mtD .join (.str [32]) [.list (L.map fun i => .str (sg i))] = some (.str (joinC [32] (L.map sg))) := jw
  have jp : mtD .join (.str [32]) [.list (P.map fun p => .str (pg p))] = some (.str (joinC [32] (P.map pg))) := jp
  refine ⟨⟨vs, ws, L, P, t⟩, (many : Int), none, none, none, ⟨hv, ⟨hLl, hLs⟩, ⟨hPl, hPs⟩, ht⟩, ?_⟩
  have g1 : ∀ (ρ : Cr.Env), ρ = [some (.d (.rol (ns.map .int))), some (.d (.list (vs.map nD))), some (.d (.list (ws.map nD))), none, none, none, none, none, none, none, none, none, none, none, none, none] →
      lcLoop (lcBody (.name 14) [] (sem (run Ga (n + 6)) Ga.gl (.call false "_law_number" [(.var 1), (.bin false .Mult (.con (.int 5)) (.var 14))])) ρ) ((List.range c1).map nD) [] = M.pure (L.map .int) := fun ρ hρ => by
    subst hρ
    rw [lc_g nD (fun k => .int (fv (5 * k))) (fun k hk => by simp [lcBody_eq, m5, (bl k hk).2]) (by simp; omega), eL]
  have g2 : ∀ (ρ : Cr.Env), ρ = [some (.d (.rol (ns.map .int))), some (.d (.list (vs.map nD))), some (.d (.list (ws.map nD))), some (.d (.list (L.map .int))), none, none, none, none, none, none, none, none, none, none, none, none] →
      lcLoop (lcBody (.name 14) [] (sem (run Ga (n + 6)) Ga.gl (.tup [(.call false "_law_number" [(.var 2), (.bin false .Mult (.con (.int 5)) (.var 14))]), (.call false "_law_number" [(.var 1), (.bin false .Add (.bin false .Mult (.con (.int 5)) (.var 14)) (.con (.int 2)))])])) ρ) ((List.range c2).map nD) [] = M.pure (P.map pD) := fun ρ hρ => by
    subst hρ
    rw [lc_g nD (fun k => .tup [.int (fw (5 * k)), .int (fv (5 * k + 2))]) (fun k hk => by simp [lcBody_eq, m5, (bp k hk).1.2, (bp k hk).2.2]) (by simp; omega), eP]
  have g3 : ∀ (ρ : Cr.Env), ρ = [some (.d (.rol (ns.map .int))), some (.d (.list (vs.map nD))), some (.d (.list (ws.map nD))), some (.d (.list (L.map .int))), some (.d (.list (P.map pD))), some (.d (.int (many : Int))), none, none, none, none, none, none, none, none, none, none] →
      lcLoop (lcBody (.name 14) [] (sem (run Ga (n + 6)) Ga.gl (.idx (.call false "_law_signs" []) (.bin false .Mod (.bin false .Add (.bin false .Add (.idx (.var 2) (.bin false .Mod (.var 14) (.con (.int 60)))) (.bin false .Mult (.bin false .FloorDiv (.var 14) (.con (.int 60))) (.idx (.var 1) (.con (.int 54))))) (.var 14)) (.con (.int 95))))) ρ) ((List.range many).map nD) [] = M.pure ((List.range many).map fun k => .str [tx k]) := fun ρ hρ => by
    subst hρ
    exact lc_g nD (fun k => .str [tx k]) (fun k hk => bt [] k hk) (by simp; omega)
  have main : evSs (run Ga (n + 6)) Ga.gl (b_law.body.take 11) (startE 16 [.d (.rol (ns.map .int))]) [] = .ok .next (Mat.env ⟨vs, ws, L, P, t⟩ (.d (.rol (ns.map .int))) many none none none) [] := by
    refine (step_asg (w := .d (.list (vs.map nD))) (by simp [rv])).trans ?_
    refine (step_asg (w := .d (.list (ws.map nD))) (by simp [rw'])).trans ?_
    refine (step_asg (w := .d (.list (L.map .int))) (lc_v (xs := (List.range c1).map nD) (by simp [i50, a50, r1, -range1_E]) (g1 _ (by simp)))).trans ?_
    refine (step_asg (w := .d (.list (P.map pD))) (lc_v (xs := (List.range c2).map nD) (by simp [i51, a51, r2, -range1_E]) (g2 _ (by simp)))).trans ?_
    refine (step_asg (w := .d (.int (many : Int))) (by simp [i52, a52, i53, a53, bi_bool, im])).trans ?_
    refine (step_asg (w := .d (.str t)) (join_v (lc_v (xs := (List.range many).map nD) (by simp [r3, -range1_E]) (g3 _ (by simp))) jt)).trans ?_
    refine (step_asg (w := .d (.str (joinC [32] (L.map sg)))) (join_v (lc_v (xs := L.map .int) (by simp) (lc_g D.int (fun i => .str (sg i)) (fun i hi => by simp [lcBody_eq, str_sg (hLs i hi)]) (by omega))) jw)).trans ?_
    refine (step_ifset (b := decide (L = [])) (by simp [eq_ints])).trans ?_
    refine (step_asg (w := .d (.str (joinC [32] (P.map pg)))) (join_v (lc_v (xs := P.map pD) (by cases decide (L = []) <;> simp) (lc_g pD (fun p => .str (pg p)) (fun p hp => by
      have l1 := sg_len (hPs p hp).1
      have l2 := sg_len (hPs p hp).2
      have t0 : ∀ a b : D, idxD (.tup [a, b]) (.int 0) = some a := fun a b => L2.atI_nat (j := 0) rfl
      have t1 : ∀ a b : D, idxD (.tup [a, b]) (.int 1) = some b := fun a b => L2.atI_nat (j := 1) rfl
      have s1 : binD .Add (.str (sg p.1)) (.str [44]) = some (.str (sg p.1 ++ [44])) := add_str (by simp; omega)
      have s2 : binD .Add (.str (sg p.1 ++ [44])) (.str (sg p.2)) = some (.str (pg p)) := add_str (by simp; omega)
      cases decide (L = []) <;> simp [lcBody_eq, pD, t0, t1, str_sg (hPs p hp).1, str_sg (hPs p hp).2, s1, s2]) (by omega))) jp)).trans ?_
    refine (step_ifset (b := decide (P = [])) (by cases decide (L = []) <;> simp [eq_pairs])).trans ?_
    refine (step_asg (w := .d (.list (L.map .int))) (by cases decide (L = []) <;> cases decide (P = []) <;> simp [biD, items])).trans ?_
    refine (evSs_nil _ _).trans ?_
    unfold Mat.env wholesT pairsT
    by_cases h1 : L = [] <;> by_cases h2 : P = [] <;> simp [h1, h2]
  rw [main, andS_next]
end K77

namespace K77
open Cr PySem
theorem bindM_ok {α β : Type} {m : M α} {f : α → M β} {s s' : Store} {a : α} (h : m s = .ok a s') : M.bind m f s = f a s' := by
  show (m s).andThen f = _
  rw [h]
  rfl
def Mat.env2 (m : Mat) (sc : W) (many : Int) (told one near o1 o2 o3 : Option W) : Cr.Env := [some sc, some (.d (.list (m.vs.map nD))), some (.d (.list (m.ws.map nD))), some (.d (.list (m.L.map .int))), some (.d (.list (m.P.map pD))), some (.d (.int many)), some (.d (.str m.t)), some (.d (.str (wholesT m.L))), some (.d (.str (pairsT m.P))), some (.d (.list (m.L.map .int))), told, one, near, o1, o2, o3]
theorem split_sg (i : Int) : splitC [32] (sg i) = [sg i] := by
  have := TL.spl_join (s := 32) (S := []) (parts := [sg i]) (by simp) (fun q hq => by
    simp only [List.mem_cons, List.not_mem_nil, or_false] at hq
    rw [hq]
    exact sg_free (by decide))
  exact this
theorem rwL_sg {i : Int} (h : Sm i) : rwL (sg i) = [.int i] ∧ ¬ (sg i ≠ [45] ∧ badW (sg i) = true) := by
  constructor
  · unfold rwL
    rw [if_neg (sg_ne i), split_sg]
    simp [valW_sg h]
  · rintro ⟨_, hb⟩
    unfold badW at hb
    rw [split_sg] at hb
    simp [okW_sg h] at hb
theorem rd_sg (n : Nat) {i : Int} (h : Sm i) (s : Store) : run Ga (n + 6) "read_wholes" [.d (.str (sg i))] s = .ok (.ref s.length) (s ++ [.list [.int i]]) := by
  have q := read_wholes_run (n + 4) (sg i) (by have := sg_len h; omega) s
  rw [if_neg (rwL_sg h).2, (rwL_sg h).1] at q
  exact q
theorem rd_w (n : Nat) {L : List Int} (hl : L.length ≤ 9) (h : ∀ i ∈ L, Sm i) (s : Store) : run Ga (n + 6) "read_wholes" [.d (.str (wholesT L))] s = .ok (.ref s.length) (s ++ [.list (L.map .int)]) := by
  have q := read_wholes_run (n + 4) (wholesT L) (by have := wholesT_len (L := L) (by omega) h; omega) s
  rw [if_neg (rwL_wholes h).2, (rwL_wholes h).1] at q
  exact q
theorem rd_45 (n : Nat) (s : Store) : run Ga (n + 6) "read_wholes" [.d (.str [45])] s = .ok (.ref s.length) (s ++ [.list []]) := read_wholes_run (n + 4) [45] (by decide) s
theorem same_str (n : Nat) (x : T) : pcall (run Ga (n + 6)) "_law_same" [.d (.str x), .d (.str x)] = M.pure (.bool true) := pcall2 (same_run (n + 5) (.str x) rfl [])
theorem cmp_ints {L : List Int} (hl : L.length ≤ 9) (n : Nat) : D.cmpOk (n + 1) (.list (L.map .int)) = true := cmp_list (by simp; omega) fun x hx => by
  obtain ⟨i, _, rfl⟩ := List.mem_map.mp hx
  cases n <;> rfl
theorem cmp_pairs {P : List (Int × Int)} (hl : P.length ≤ 9) (n : Nat) : D.cmpOk (n + 2) (.list (P.map pD)) = true := cmp_list (by simp; omega) fun x hx => by
  obtain ⟨i, _, rfl⟩ := List.mem_map.mp hx
  exact cmp_tup (by simp) fun y hy => by
    simp only [List.mem_cons, List.not_mem_nil, or_false] at hy
    rcases hy with rfl | rfl <;> cases n <;> rfl
def rdBody : List S := [.ite (.not (.call false "_law_reads" [.var 12])) [.ret (.con (.bool false))] []]
theorem in_loop (n : Nat) (m : Mat) (sc : W) (many : Int) (told one o1 o2 o3 : Option W) (s : Store) : ∀ (ls : List T) (near : Option W), (∀ l ∈ ls, l.length ≤ 100000 ∧ Asc l) →
    ∃ near', forLoop (forBody (.name 12) (evSs (run Ga (n + 6)) Ga.gl rdBody)) (ls.map .str) (m.env2 sc many told one near o1 o2 o3) s = .ok .next (m.env2 sc many told one near' o1 o2 o3) s
  | [], near, _ => ⟨near, by simp [forLoop]⟩
  | l :: ls, near, h => by
    obtain ⟨st, e⟩ := law_reads_run (n + 2) l (h l (by simp)).1 (h l (by simp)).2
    have pc : pcall (run Ga (n + 6)) "_law_reads" [.d (.str l)] = M.pure (.bool true) := pcall1 e
    obtain ⟨near', e2⟩ := in_loop n m sc many told one o1 o2 o3 s ls (some (.d (.str l))) (fun x hx => h x (by simp [hx]))
    refine ⟨near', ?_⟩
    have e0 : forBody (.name 12) (evSs (run Ga (n + 6)) Ga.gl rdBody) (.str l) (m.env2 sc many told one near o1 o2 o3) s = .ok .next (m.env2 sc many told one (some (.d (.str l))) o1 o2 o3) s := by
      unfold forBody
      simp only [bindPt_name]
      simp [rdBody, Mat.env2, pc]
    rw [List.map_cons, forLoop, e0]
    exact e2
def outBody : List S := [.for (.name 12) (.call false "_law_near" [.var 11, .slice false true false (.var 1) (.con (.int 55)) .nil]) rdBody]
theorem out_loop (n : Nat) (m : Mat) (hm : m.Ok) (sc : W) (many : Int) (told o1 o2 o3 : Option W) (s : Store) : ∀ (ls : List T) (one near : Option W), (∀ l ∈ ls, l.length ≤ 10000 ∧ Asc l) →
    ∃ one' near', forLoop (forBody (.name 11) (evSs (run Ga (n + 6)) Ga.gl outBody)) (ls.map .str) (m.env2 sc many told one near o1 o2 o3) s = .ok .next (m.env2 sc many told one' near' o1 o2 o3) s
  | [], one, near, _ => ⟨one, near, by simp [forLoop]⟩
  | l :: ls, one, near, h => by
    obtain ⟨h1, h2⟩ := h l (by simp)
    obtain ⟨v, r, ev⟩ : ∃ (v : Nat) (r : List D), cut (m.vs.map nD) (some 55) none = .int (v : Int) :: r := by
      rw [show (some (55 : Int)) = some ((55 : Nat) : Int) from rfl, cut_drop]
      have hl : 55 < (m.vs.map nD).length := by rw [List.length_map, hm.v.1]; decide
      rw [List.drop_eq_getElem_cons hl, List.getElem_map]
      exact ⟨_, _, rfl⟩
    have pc := law_near_run (n + 5) l v r h1
    obtain ⟨near1, e1⟩ := in_loop n m sc many told (some (.d (.str l))) o1 o2 o3 s (nearT l (v % (l.length + 1))) near (near_ok l _ h1 h2)
    obtain ⟨one', near', e2⟩ := out_loop n m hm sc many told o1 o2 o3 s ls (some (.d (.str l))) near1 (fun x hx => h x (by simp [hx]))
    refine ⟨one', near', ?_⟩
    have e0 : forBody (.name 11) (evSs (run Ga (n + 6)) Ga.gl outBody) (.str l) (m.env2 sc many told one near o1 o2 o3) s = .ok .next (m.env2 sc many told (some (.d (.str l))) near1 o1 o2 o3) s := by
      unfold forBody
      simp only [bindPt_name]
      show evSs (run Ga (n + 6)) Ga.gl outBody (m.env2 sc many told (some (.d (.str l))) near o1 o2 o3) s = _
      refine (step_for (xs := (nearT l (v % (l.length + 1))).map .str) (by simp [Mat.env2, ev, pc]) e1).trans (evSs_nil _ _)
    rw [List.map_cons, forLoop, e0]
    exact e2
def numBody : List S := [.ite (.or (.not (.call false "_law_same" [(.call false "read_whole" [(.bi false .str [(.var 13)])]), (.var 13)])) (.not (.call false "_law_same" [(.call true "read_wholes" [(.bi false .str [(.var 13)])]), (.list false [(.var 13)])]))) [.ret (.con (.bool false))] []]
theorem num_loop (n : Nat) (m : Mat) (sc : W) (many : Int) (told one near o2 o3 : Option W) : ∀ (L : List Int) (o1 : Option W) (s : Store), (∀ i ∈ L, Sm i) →
    ∃ o1' s', forLoop (forBody (.name 13) (evSs (run Ga (n + 6)) Ga.gl numBody)) (L.map .int) (m.env2 sc many told one near o1 o2 o3) s = .ok .next (m.env2 sc many told one near o1' o2 o3) s'
  | [], o1, s, _ => ⟨o1, s, by simp [forLoop]⟩
  | i :: L, o1, s, h => by
    have hi := h i (by simp)
    obtain ⟨o1', s', e2⟩ := num_loop n m sc many told one near o2 o3 L (some (.d (.int i))) (s ++ [.list [.int i]]) (fun x hx => h x (by simp [hx]))
    refine ⟨o1', s', ?_⟩
    have r1 : pcall (run Ga (n + 6)) "read_whole" [.d (.str (sg i))] = M.pure (.int i) := by
      rw [← valW_sg hi]
      exact pcall1 (read_whole_run (n + 5) (sg i) (by have := sg_len hi; omega) [])
    have r2 : pcall (run Ga (n + 6)) "_law_same" [.d (.int i), .d (.int i)] = M.pure (.bool true) := pcall2 (same_run (n + 5) (.int i) rfl [])
    have r3 : pcall (run Ga (n + 6)) "_law_same" [.ref s.length, .d (.list [.int i])] (s ++ [.list [.int i]]) = .ok (.bool true) (s ++ [.list [.int i]]) := same_cell (n + 5) (by simp) (cmp_list (by simp) fun x hx => by
      simp only [List.mem_cons, List.not_mem_nil, or_false] at hx
      rw [hx]
      rfl)
    have e0 : forBody (.name 13) (evSs (run Ga (n + 6)) Ga.gl numBody) (.int i) (m.env2 sc many told one near o1 o2 o3) s = .ok .next (m.env2 sc many told one near (some (.d (.int i))) o2 o3) (s ++ [.list [.int i]]) := by
      unfold forBody
      simp only [bindPt_name]
      show evSs (run Ga (n + 6)) Ga.gl numBody (m.env2 sc many told one near (some (.d (.int i))) o2 o3) s = _
      refine (step_no (s' := s ++ [.list [.int i]]) ?_).trans (evSs_nil _ _)
      simp [Mat.env2, str_sg hi, r1, r2]
      rw [bindM_ok (rd_sg n hi s)]
      rw [bindM_ok r3]
      rfl
    rw [List.map_cons, forLoop, e0]
    exact e2
end K77

namespace K77
open Cr PySem
theorem fin_part (n : Nat) (m : Mat) (hm : m.Ok) (sc : W) (many : Int) (o1 o2 o3 : Option W) : ∃ ρ st, evSs (run Ga (n + 6)) Ga.gl (b_law.body.drop 11) (m.env sc many o1 o2 o3) [] = .ok (.ret (.d (.bool true))) ρ st := by
  obtain ⟨hl, hL⟩ := hm.l
  obtain ⟨pl, hP⟩ := hm.p
  obtain ⟨tl, ht⟩ := hm.t
  have e0 : m.env sc many o1 o2 o3 = m.env2 sc many none none none o1 o2 o3 := rfl
  rw [e0]
  have c1 : pcall (run Ga (n + 6)) "show_wholes" [.d (.list (m.L.map .int))] = M.pure (.str (wholesT m.L)) := pcall1 (show_wholes_run (n + 5) m.L (by omega) hL [])
  have c2 : pcall (run Ga (n + 6)) "show_pairs" [.d (.list (m.P.map pD))] = M.pure (.str (pairsT m.P)) := pcall1 (show_pairs_run (n + 5) m.P (by omega) hP [])
  have c3 : pcall (run Ga (n + 6)) "show_text" [.d (.str m.t)] = M.pure (.str (showT m.t)) := pcall1 (show_text_run (n + 4) m.t (by omega) ht [])
  have c4 : pcall (run Ga (n + 6)) "_law_hex" [.d (.str m.t)] = M.pure (.str (showT m.t)) := pcall1 (law_hex_run (n + 4) m.t (by omega) ht [])
  have li : ∀ xs : List D, biD .list [.list xs] = some (.list xs) := fun _ => rfl
  have c5 : pcall (run Ga (n + 6)) "read_pairs" [.d (.str (pairsT m.P))] = M.pure (.list (m.P.map pD)) := by
    rw [← pairsV_pairs hP]
    exact pcall1 (read_pairs_run (n + 3) (pairsT m.P) (by have := pairsT_len (P := m.P) (by omega) hP; omega) [])
  have c6 : pcall (run Ga (n + 6)) "_law_same" [.d (.list (m.P.map pD)), .d (.list (m.P.map pD))] = M.pure (.bool true) := pcall2 (same_run (n + 5) _ (cmp_pairs pl (n + 3)) [])
  have c7 : pcall (run Ga (n + 6)) "read_text" [.d (.str (showT m.t))] = M.pure (.str m.t) := by
    rw [← textV_showT ht]
    exact pcall1 (read_text_run (n + 4) (showT m.t) (by have := showT_len (t := m.t) (by omega); omega) [])
  have c8 : pcall (run Ga (n + 6)) "read_text" [.d (.str [45])] = M.pure (.str []) := pcall1 (read_text_run (n + 4) [45] (by decide) [])
  have c9 : cmpD .NotEq (.list (m.L.map .int)) (.list (m.L.map .int)) = some false := by
    show (eqD _ _).map _ = _
    rw [eqD_refl (n := 2) (by decide) (by simp only [D.good]; exact ints_good m.L)]
    rfl
  have c10 : cmpD .NotEq (.list []) (.list []) = some false := ne_nilE (n := 1) (by decide) rfl
  have d1 : pcall (run Ga (n + 6)) "read_whole" [.d (.str [45])] = M.pure .non := pcall1 (read_whole_run (n + 5) [45] (by decide) [])
  have d2 : pcall (run Ga (n + 6)) "_law_same" [.d .non, .d .non] = M.pure (.bool true) := pcall2 (same_run (n + 5) .non rfl [])
  have d3 : pcall (run Ga (n + 6)) "show_pairs" [.d (.list [.tup [.int 0, .int (-1)]])] = M.pure (.str [48, 44, 45, 49]) := pcall1 (show_pairs_run (n + 5) [(0, -1)] (by decide) (fun p hp => by
    have : p = (0, -1) := by simpa using hp
    subst this
    exact ⟨show (0 : Int).natAbs < 10 ^ 40 by decide, show (-1 : Int).natAbs < 10 ^ 40 by decide⟩) [])
  have d4 : pcall (run Ga (n + 6)) "show_text" [.d (.str [10, 126])] = M.pure (.str [48, 48, 53, 101]) := pcall1 (show_text_run (n + 4) [10, 126] (by decide) (by decide) [])
  have un1 : unD .USub (.int 1) = some (.int (-1)) := rfl
  -- the first look
  refine Exists.imp (fun ρ => Exists.imp fun st e => (step_no (s' := []) ?_).trans e) ?_
  · simp [Mat.env2, c1, c2, c3, c4, li, same_str]
  -- told
  refine Exists.imp (fun ρ => Exists.imp fun st e => (step_asgM (w := .ref 0) (s' := [.list (m.L.map .int)]) ?_).trans e) ?_
  · simp [Mat.env2]
    exact rd_w n hl hL []
  refine Exists.imp (fun ρ => Exists.imp fun st e => (step_no (s' := [.list (m.L.map .int)]) ?_).trans e) ?_
  · simp [Mat.env2]
    rw [bindM_ok (same_cell (n + 5) (k := 0) (s := [.list (m.L.map .int)]) rfl (cmp_ints hl (n + 4)))]
    simp [c4, c5, c6, c7, same_str]
  refine Exists.imp (fun ρ => Exists.imp fun st e => (step_expr (w := .d .non) (s' := [.list (m.L.map .int ++ [.int 1])]) ?_).trans e) ?_
  · simp [Mat.env2]
    have gq : guardL (.ref 0) [Cell.list (m.L.map .int)] = .ok () [.list (m.L.map .int)] := rfl
    rw [bindM_ok gq]
    show (if decide ((m.L.map D.int).length < 16777216) then Res.ok (W.d .non) _ else Res.bad) = _
    rw [decide_eq_true (by simp; omega), if_pos rfl]
    rfl
  refine Exists.imp (fun ρ => Exists.imp fun st e => (step_no (s' := [.list (m.L.map .int ++ [.int 1]), .list (m.L.map .int), .list []]) ?_).trans e) ?_
  · have q1 : run Ga (n + 6) "read_wholes" [.d (.str (wholesT m.L))] [Cell.list (m.L.map .int ++ [.int 1])] = .ok (.ref 1) [.list (m.L.map .int ++ [.int 1]), .list (m.L.map .int)] := rd_w n hl hL _
    have q2 : pcall (run Ga (n + 6)) "_law_same" [.ref 1, .d (.list (m.L.map .int))] [Cell.list (m.L.map .int ++ [.int 1]), .list (m.L.map .int)] = .ok (.bool true) [.list (m.L.map .int ++ [.int 1]), .list (m.L.map .int)] := same_cell (n + 5) (k := 1) rfl (cmp_ints hl (n + 4))
    have q3 : run Ga (n + 6) "read_wholes" [.d (.str [45])] [Cell.list (m.L.map .int ++ [.int 1]), .list (m.L.map .int)] = .ok (.ref 2) [.list (m.L.map .int ++ [.int 1]), .list (m.L.map .int), .list []] := rd_45 n _
    have q4 : peek (.ref 2) [Cell.list (m.L.map .int ++ [.int 1]), .list (m.L.map .int), .list []] = .ok (.list []) [.list (m.L.map .int ++ [.int 1]), .list (m.L.map .int), .list []] := rfl
    simp [Mat.env2]
    rw [bindM_ok q1, bindM_ok q2]
    simp [c9]
    rw [bindM_ok q3]
    rw [bindM_ok q4]
    simp [c10, c8]
  -- all that is near
  obtain ⟨p0, pr, hp0⟩ : ∃ (p0 : T) (pr : List T), splitC [32] (wholesT m.L) = p0 :: pr := by
    cases e : splitC [32] (wholesT m.L) with
    | nil => exact absurd e (split_ne _ _)
    | cons a r => exact ⟨a, r, rfl⟩
  have wl := wholesT_len (L := m.L) (by omega) hL
  have fl : fits (showT m.t).length = true := fits_of (by have := showT_len (t := m.t) (by omega); omega)
  have sp := split_E (c := 32) (t := wholesT m.L) (by decide) (by omega)
  have ct : cut (showT m.t) none (some 80) = (showT m.t).take 80 := cut_take _ 80
  obtain ⟨one', near', lo⟩ := out_loop n m hm sc many (some (.ref 0)) o1 o2 o3 [.list (m.L.map .int ++ [.int 1]), .list (m.L.map .int), .list []] [wholesT m.L, pairsT m.P, (showT m.t).take 80, p0] none none (fun l hl' => by
    simp only [List.mem_cons, List.not_mem_nil, or_false] at hl'
    rcases hl' with rfl | rfl | rfl | rfl
    · exact ⟨by omega, wholesT_asc _⟩
    · exact ⟨by have := pairsT_len (P := m.P) (by omega) hP; omega, pairsT_asc _⟩
    · exact ⟨by rw [List.length_take]; omega, fun c hc => showT_asc ht c (List.mem_of_mem_take hc)⟩
    · have hin : l ∈ splitC [32] (wholesT m.L) := by rw [hp0]; simp
      exact ⟨by have := split_len hin; omega, fun c hc => wholesT_asc _ c (split_mem hin c hc)⟩)
  obtain ⟨o1', s', ln⟩ := num_loop n m sc many (some (.ref 0)) one' near' o2 o3 m.L o1 [.list (m.L.map .int ++ [.int 1]), .list (m.L.map .int), .list []] hL
  refine ⟨m.env2 sc many (some (.ref 0)) one' near' o1' o2 o3, s', ?_⟩
  refine (step_for (xs := [.str (wholesT m.L), .str (pairsT m.P), .str ((showT m.t).take 80), .str p0]) ?_ lo).trans ?_
  · simp [Mat.env2, c4, slice_strE fl, ct, sp, hp0, idx0L]
  refine (step_for (xs := m.L.map .int) ?_ ln).trans ?_
  · simp [Mat.env2]
  rw [evSs_cons]
  simp [Mat.env2, d1, d2, d3, d4, un1, same_str]
theorem law_true (n : Nat) (ns : List Int) : ∃ st, run Ga (n + 7) "law" [.d (.rol (ns.map .int))] [] = .ok (.d (.bool true)) st := by
  obtain ⟨m, many, o1, o2, o3, hm, e⟩ := stage1 n ns (evSs (run Ga (n + 6)) Ga.gl (b_law.body.drop 11))
  obtain ⟨ρ, st, e2⟩ := fin_part n m hm (.d (.rol (ns.map .int))) many o1 o2 o3
  refine ⟨st, ?_⟩
  rw [run_fn f_law rfl]
  show retR (evSs (run Ga (n + 6)) Ga.gl b_law.body (startE 16 _) []) = _
  have sp : evSs (run Ga (n + 6)) Ga.gl b_law.body (startE 16 [.d (.rol (ns.map .int))]) [] = andS (evSs (run Ga (n + 6)) Ga.gl (b_law.body.take 11) (startE 16 [.d (.rol (ns.map .int))]) []) (evSs (run Ga (n + 6)) Ga.gl (b_law.body.drop 11)) := by
    have ap : ∀ (a b : List S) (ρ : Cr.Env) (s : Store), evSs (run Ga (n + 6)) Ga.gl (a ++ b) ρ s = andS (evSs (run Ga (n + 6)) Ga.gl a ρ s) (evSs (run Ga (n + 6)) Ga.gl b) := by
      intro a
      induction a with
      | nil => intro b ρ s; rw [evSs_nil, andS_next, List.nil_append]
      | cons x a ih =>
        intro b ρ s
        rw [List.cons_append, evSs_cons, evSs_cons, andS_assoc]
        congr 1
        funext ρ s
        exact ih b ρ s
    rw [← ap, List.take_append_drop]
  rw [sp, e, e2]
  rfl
end K77

namespace K77
open PySem PySem.Spec PyProof.Rows L2 Cr
abbrev R : PySem.W.OpenRow := PySem.W.OpenLaw.row PySem.Challenge.rw_askewread_k77_notes_of_numbers
abbrev hk : PySem.W.Hook := He.hookD 3 (facts defs gvs) (defs.map DS.dd)
def ob (s : PySem.W.SharedT) : He.AlD := He.obsDG 3 (facts defs gvs) (defs.map DS.dd) (HandSHeadRun.getT s)
theorem ob_eq (s : PySem.W.SharedT) : ob s = hk.obs s.abs := He.obsDG_eq (HandSHeadRun.getT_eq s)
def others : List Str := ["SIGNS", "sign_number", "sign_of_number", "FIGURES", "MOST_FIGURES", "read_whole", "show_wholes", "read_wholes", "show_pairs", "read_pair", "read_pairs", "show_text", "HEX", "read_text", "_law_numbers", "_law_same", "_law_signs", "_law_hex", "_law_whole", "_law_wholes", "_law_pairs", "_law_text", "_law_number", "_law_near", "_law_reads"]
theorem goes (w : World) : HandSHeadRun.RunEq R (PySem.W.view R.prog [28]) hk ob 2000 others w := by
  intro os
  kernel_rfl
theorem main : ∀ ns : List Int, ns.length ≤ 63 → (∀ z ∈ ns, Builtin.Int.intBits z ≤ 1048576) → ∃ st, run Ga (99 + 1) "law" [.d (.rol (ns.map .int))] [] = .ok (.d (.bool true)) st := fun ns _ _ => law_true 93 ns
end K77
open PySem PySem.W PySem.Calls PyProof.Rows
theorem PySem.Challenge.cw_askewread_k77_notes_of_numbers_holds : PySem.Challenge.rw_askewread_k77_notes_of_numbers.Holds := by
  w_on; o_law
  refine HandSHeadRun.head_any (r := K77.R) (q := view K77.R.prog [28]) (H := K77.hk) (ob := K77.ob) (M := 2000) (loose := K77.others) (d := HandSHeadRun.topDef K77.R.prog 28) (kwd := []) K77.ob_eq
    (by kernel_rfl) (fun s => by kernel_rfl) K77.goes (by kernel_rfl) (by kernel_rfl) (by kernel_rfl) (by rfl) (by first | assumption | decide +kernel) (by decide +kernel) ⟨rfl, rfl, rfl, rfl, rfl, by decide +kernel⟩ ?hw ?hc
  case hw => w_witness2
  case hc => exact Cr.law_end (l := PySem.Challenge.rw_askewread_k77_notes_of_numbers) rfl (by kernel_rfl) (by kernel_rfl) ⟨rfl, by decide, by decide⟩ K77.oks (dl := K77.d_law) (by unfold K77.defs; simp) rfl rfl K77.main
