import PyProof.Rows.All
import Wide.All
import OpenK.AllK
import Wide.FinOn
import HandS.ForMost
import HandS.Exc
import HandS.WordsExc
import HandS.Defaults
import HandS.Wide
import HandS.Deep
import HandS.TupAny
import HandS.TupMul
import HandS.Zip
import HandS.Conv
import HandS.Walk
import HandS.IsInst
import HandS.ExcInit
import HandS.ExcField
import HandS.Strs
import HandS.Style
import HandS.MakeKw
import HandS.TryMany
import HandS.EndBits
import KE.SortData
import KE.KDictKeyed
import KE.KDictPairs
import KE.KDictWalk
import KE.KDictLaw
import HandS.Head0
import HandS.Head1
import HandS.Head2
import HandS.HeadEnd
import HandS.HeadHook1
import HandS.HeadHook2
import HandS.TryOnly
import HandS.HeadHook4
import KE.KeyNested
import KE.SortLaws
import PySem.Challenge.RW_viewsalone_k75_leak_ledgers
set_option Elab.async false
set_option linter.all false
set_option autoImplicit false
set_option maxRecDepth 100000
set_option maxHeartbeats 0
/-! A small language for the part of Python that the given texts use, over plain data; its meaning as functions. -/
namespace Rf
open PySem PySem.Spec PyProof.Rows L2
abbrev D := PyData
/-- a value: data that never changes; an object of the small heap; a caught exception with one field -/
inductive W where
  | d (x : D)
  | r (n : Nat)
  | x (f : Str) (y : D)
/-- an object of the small heap -/
inductive Ob where
  | lst (xs : List W)
  | dct (lk : Bool) (kvs : List (D × W))
  | ins (c : Str) (fs : List (Str × W))
abbrev Hs := List Ob
structure Exn where
  cls : Str
  fld : Option (Str × D)
inductive Res (α : Type) where
  | ok (a : α) (h : Hs)
  | ex (x : Exn) (h : Hs)
  | no
def Res.bd {α β : Type} (r : Res α) (k : α → Hs → Res β) : Res β := match r with
  | .ok a h => k a h
  | .ex x h => .ex x h
  | .no => .no
abbrev Env := List (Option W)
inductive Itm where
  | one (w : W)
  | two (a b : W)
inductive Src where
  | ws (xs : List Itm)
  | rf (n : Nat) (len : Nat)
/-! ### the syntax: each node remembers its place, so that syn gives back the very tree -/
inductive Bi where
  | len | all | any | tuple | list | sorted | dict | int | abs | max2 | min2 | sum | max1 | min1
  deriving DecidableEq
inductive Ty where
  | int | bool | str | tuple | list
  deriving DecidableEq
inductive Mt where
  | append | pop0 | pop1 | index | get2 | setdefault
  deriving DecidableEq
def Bi.name : Bi → Str
  | .len => "len" | .all => "all" | .any => "any" | .tuple => "tuple" | .list => "list" | .sorted => "sorted" | .dict => "dict" | .int => "int" | .abs => "abs"
  | .max2 => "max" | .min2 => "min" | .sum => "sum" | .max1 => "max" | .min1 => "min"
def Ty.name : Ty → Str
  | .int => "int" | .bool => "bool" | .str => "str" | .tuple => "tuple" | .list => "list"
def Mt.name : Mt → Str
  | .append => "append" | .pop0 => "pop" | .pop1 => "pop" | .index => "index" | .get2 => "get" | .setdefault => "setdefault"
mutual
inductive E where
  | var (i : Nat) (x : Str) (p : Pos)
  | int (i : Int) (k : Nat) (p : Pos)
  | str (s : Str) (k : Nat) (p : Pos)
  | bl (b : Bool) (k : Nat) (p : Pos)
  | non (k : Nat) (p : Pos)
  | glo (x : Str) (p : Pos)
  | bin (o : Operator) (m : Bool) (a b : E) (p : Pos)
  | neg (a : E) (p : Pos)
  | nott (a : E) (p : Pos)
  | and_ (es : Es) (p : Pos)
  | or_ (es : Es) (p : Pos)
  | cmp (o : CmpOp) (a b : E) (p : Pos)
  | chn (o o' : CmpOp) (a b c : E) (p : Pos)
  | ite (c a b : E) (p : Pos)
  | tup (es : Es) (k : Nat) (p : Pos)
  | lst (m : Bool) (es : Es) (p : Pos)
  | dic (p : Pos)
  | sub (a b : E) (p : Pos)
  | slc (m : Bool) (a : E) (lo hi : Oe) (p' p : Pos)
  | rev (m : Bool) (a : E) (k : Nat) (p1 p2 p3 p : Pos)
  | fld (a : E) (f : Str) (p : Pos)
  | exf (i : Nat) (x f : Str) (p' p : Pos)
  | cal (f : Nat) (x : Str) (es : Es) (ks : Ks) (ord : List Nat) (p0 p : Pos)
  | mcl (f : Nat) (c m : Str) (a : E) (es : Es) (ks : Ks) (ord : List Nat) (p1 p : Pos)
  | new (c : Nat) (x : Str) (es : Es) (ks : Ks) (ord : List Nat) (p0 p : Pos)
  | bif (b : Bi) (m : Bool) (es : Es) (p0 p : Pos)
  | isi (a : E) (t : Ty) (p1 p0 p : Pos)
  | leni (f : Nat) (c : Str) (a : E) (p0 p : Pos)
  | mth (m : Mt) (a : E) (es : Es) (p1 p : Pos)
  | lc (m : Bool) (elt : E) (tg : Tg) (it : It) (cs : Oe) (own : List (Str × Nat)) (sc : Scope) (p : Pos)
  | lc2 (m : Bool) (elt : E) (tg : Tg) (it : It) (cs : Oe) (tg' : Tg) (it' : It) (cs' : Oe) (own : List (Str × Nat)) (vs' : List Nat) (sc : Scope) (p : Pos)
inductive Es where
  | nil
  | cons (a : E) (r : Es)
inductive Ks where
  | nil
  | cons (n : Str) (a : E) (p : Pos) (r : Ks)
inductive Oe where
  | none
  | some (a : E)
inductive It where
  | exp (a : E)
  | rng (es : Es) (p0 p : Pos)
  | enu (a : E) (p0 p : Pos)
  | zip (a b : E) (p0 p : Pos)
  | vals (a : E) (p1 p : Pos)
  | items (a : E) (p1 p : Pos)
inductive Tg where
  | var (i : Nat) (x : Str) (p : Pos)
  | tup (ts : Tgs) (k : Nat) (p : Pos)
  | sub (a b : E) (p : Pos)
  | fld (a : E) (f : Str) (p : Pos)
inductive Tgs where
  | nil
  | cons (t : Tg) (r : Tgs)
end
mutual
def E.syn : E → Expr
  | .var _ x p => .Name x p
  | .int i k p => .Constant (.int i) k p
  | .str s k p => .Constant (.str s) k p
  | .bl b k p => .Constant (.bool b) k p
  | .non k p => .Constant .none k p
  | .glo x p => .Name x p
  | .bin o _ a b p => .BinOp a.syn o b.syn p
  | .neg a p => .UnaryOp .USub a.syn p
  | .nott a p => .UnaryOp .Not a.syn p
  | .and_ es p => .BoolOp .And es.syn p
  | .or_ es p => .BoolOp .Or es.syn p
  | .cmp o a b p => .Compare a.syn [o] [b.syn] p
  | .chn o o' a b c p => .Compare a.syn [o, o'] [b.syn, c.syn] p
  | .ite c a b p => .IfExp c.syn a.syn b.syn p
  | .tup es k p => .Tuple es.syn k p
  | .lst _ es p => .List es.syn p
  | .dic p => .Dict [] [] p
  | .sub a b p => .Subscript a.syn b.syn p
  | .slc _ a lo hi p' p => .Subscript a.syn (.Slice lo.syn hi.syn none p') p
  | .rev _ a k p1 p2 p3 p => .Subscript a.syn (.Slice none none (some (.UnaryOp .USub (.Constant (.int 1) k p1) p2)) p3) p
  | .fld a f p => .Attribute a.syn f p
  | .exf _ x f p' p => .Attribute (.Name x p') f p
  | .cal _ x es ks _ p0 p => .Call (.Name x p0) es.syn ks.syn p
  | .mcl _ _ m a es ks _ p1 p => .Call (.Attribute a.syn m p1) es.syn ks.syn p
  | .new _ x es ks _ p0 p => .Call (.Name x p0) es.syn ks.syn p
  | .bif b _ es p0 p => .Call (.Name b.name p0) es.syn [] p
  | .isi a t p1 p0 p => .Call (.Name "isinstance" p0) [a.syn, .Name t.name p1] [] p
  | .leni _ _ a p0 p => .Call (.Name "len" p0) [a.syn] [] p
  | .mth m a es p1 p => .Call (.Attribute a.syn m.name p1) es.syn [] p
  | .lc _ elt tg it cs _ sc p => .ListComp elt.syn [⟨tg.syn, it.syn, cs.lsyn, 0⟩] sc p
  | .lc2 _ elt tg it cs tg' it' cs' _ _ sc p => .ListComp elt.syn [⟨tg.syn, it.syn, cs.lsyn, 0⟩, ⟨tg'.syn, it'.syn, cs'.lsyn, 0⟩] sc p
def Es.syn : Es → List Expr
  | .nil => []
  | .cons a r => a.syn :: r.syn
def Ks.syn : Ks → List Keyword
  | .nil => []
  | .cons n a p r => ⟨some n, a.syn, p⟩ :: r.syn
def Oe.syn : Oe → Option Expr
  | .none => none
  | .some a => some a.syn
def Oe.lsyn : Oe → List Expr
  | .none => []
  | .some a => [a.syn]
def It.syn : It → Expr
  | .exp a => a.syn
  | .rng es p0 p => .Call (.Name "range" p0) es.syn [] p
  | .enu a p0 p => .Call (.Name "enumerate" p0) [a.syn] [] p
  | .zip a b p0 p => .Call (.Name "zip" p0) [a.syn, b.syn] [] p
  | .vals a p1 p => .Call (.Attribute a.syn "values" p1) [] [] p
  | .items a p1 p => .Call (.Attribute a.syn "items" p1) [] [] p
def Tg.syn : Tg → Expr
  | .var _ x p => .Name x p
  | .tup ts k p => .Tuple ts.syn k p
  | .sub a b p => .Subscript a.syn b.syn p
  | .fld a f p => .Attribute a.syn f p
def Tgs.syn : Tgs → List Expr
  | .nil => []
  | .cons t r => t.syn :: r.syn
end
/-- statements; a block is a chain of seq's ending in skip; the except clauses are a chain of hd's -/
inductive S where
  | skip
  | seq (a b : S)
  | asg (t : Tg) (e : E) (p : Pos)
  | par2 (i j : Nat) (x y : Str) (a b : E) (px py pt : Pos) (kt k : Nat) (pv p : Pos)
  | par3 (i j l : Nat) (x y z : Str) (a b c : E) (px py pz pt : Pos) (kt k : Nat) (pv p : Pos)
  | aug (o : Operator) (i : Nat) (x : Str) (px : Pos) (e : E) (p : Pos)
  | exp (e : E) (p : Pos)
  | ret (e : E) (p : Pos)
  | retN (p : Pos)
  | ite (c : E) (a b : S) (p : Pos)
  | for_ (t : Tg) (it : It) (b : S) (p : Pos)
  | whl (c : E) (b : S) (p : Pos)
  | brk (p : Pos)
  | cnt (p : Pos)
  | pas (p : Pos)
  | rai (x : Str) (m : Str) (k : Nat) (p0 p1 p2 p : Pos)
  | raf (x : Str) (f : Str) (e : E) (p0 p1 p : Pos)
  | try_ (b hs : S) (p : Pos)
  | hd (x : Str) (px : Pos) (nm : Option (Nat × Str)) (b : S) (p : Pos) (r : S)
mutual
def S.syn : S → Stmt
  | .asg t e p => .Assign [t.syn] e.syn p
  | .par2 _ _ x y a b px py pt kt k pv p => .Assign [.Tuple [.Name x px, .Name y py] kt pt] (.Tuple [a.syn, b.syn] k pv) p
  | .par3 _ _ _ x y z a b c px py pz pt kt k pv p => .Assign [.Tuple [.Name x px, .Name y py, .Name z pz] kt pt] (.Tuple [a.syn, b.syn, c.syn] k pv) p
  | .aug o _ x px e p => .AugAssign (.Name x px) o e.syn p
  | .exp e p => .Expr e.syn p
  | .ret e p => .Return (some e.syn) p
  | .retN p => .Return none p
  | .ite c a b p => .If c.syn a.blk b.blk p
  | .for_ t it b p => .For t.syn it.syn b.blk [] p
  | .whl c b p => .While c.syn b.blk [] p
  | .brk p => .Break p
  | .cnt p => .Continue p
  | .pas p => .Pass p
  | .rai x m k p0 p1 p2 p => .Raise (some (.Call (.Name x p0) [.Constant (.str m) k p1] [] p2)) none p
  | .raf x _ e p0 p1 p => .Raise (some (.Call (.Name x p0) [e.syn] [] p1)) none p
  | .try_ b hs p => .Try b.blk hs.hds [] [] p
  | .skip => .Pass ⟨0, 0, 0, 0⟩
  | .seq _ _ => .Pass ⟨0, 0, 0, 0⟩
  | .hd _ _ _ _ _ _ => .Pass ⟨0, 0, 0, 0⟩
def S.blk : S → List Stmt
  | .seq a b => a.syn :: b.blk
  | _ => []
def S.hds : S → List ExceptHandler
  | .hd x px nm b p r => .ExceptHandler (some (.Name x px)) (nm.map (·.2)) b.blk p :: r.hds
  | _ => []
end
end Rf
/-! What the small language means: functions over plain data and a small heap. -/
namespace Rf
open PySem PySem.Spec PyProof.Rows L2
/-! ### views -/
def isD : W → Bool
  | .d _ => true
  | _ => false
def allD : List W → Option (List D)
  | [] => some []
  | .d x :: r => (allD r).map (x :: ·)
  | _ => none
/-- a list (false) or a tuple (true), its items -/
def sq (w : W) (h : Hs) : Option (Bool × List W) := match w with
  | .d (.tuple xs) => some (true, xs.map W.d)
  | .d (.list xs) => some (false, xs.map W.d)
  | .r n => match h[n]? with
    | some (.lst ws) => some (false, ws)
    | _ => none
  | _ => none
/-- as data -/
def vw (w : W) (h : Hs) : Option D := match w with
  | .d x => some x
  | .r n => match h[n]? with
    | some (.lst ws) => (allD ws).map PyData.list
    | _ => none
  | _ => none
/-- a dict: its pairs -/
def dq (w : W) (h : Hs) : Option (List (D × W)) := match w with
  | .d (.dict kvs) => some (kvs.map fun kv => (kv.1, W.d kv.2))
  | .r n => match h[n]? with
    | some (.dct _ kvs) => some kvs
    | _ => none
  | _ => none
def lim : Nat := 10000000
def tru (w : W) (h : Hs) : Option Bool := match w with
  | .d .none => some false
  | .d (.bool b) => some b
  | .d (.int i) => some (i != 0)
  | .d (.str s) => if s.length ≤ lim then some ((s.length : Int) != 0) else none
  | w => match sq w h with
    | some (_, ws) => some (!ws.isEmpty)
    | none => none
def rok (x : D) (h : Hs) : Res W := .ok (.d x) h
/-- a new list: changing (m), or never again -/
def mkl (m : Bool) (ws : List W) (h : Hs) : Res W :=
  if ws.length ≤ lim then
    if m = true then .ok (.r h.length) (h ++ [.lst ws])
    else match allD ws with
      | some ds => rok (.list ds) h
      | none => .no
  else .no
def mkt (ws : List W) (h : Hs) : Res W :=
  if ws.length ≤ lim then
    match allD ws with
    | some ds => rok (.tuple ds) h
    | none => .no
  else .no
/-! ### keys -/
mutual
def nk : D → Option NestedKey
  | .none => some .none
  | .bool b => some (.num (if b = true then 1 else 0))
  | .int i => some (.num i)
  | .str x => some (.text x)
  | .tuple xs => (nks xs).map .tup
  | .list _ => none
  | .dict _ => none
def nks : List D → Option (List NestedKey)
  | [] => some []
  | x :: xs => match nk x, nks xs with
    | some k, some ks => some (k :: ks)
    | _, _ => none
end
/-! ### operators -/
def mulB (i j : Int) : Bool := decide (Builtin.Int.intBits i ≤ 64) || (decide (Builtin.Int.intBits j ≤ 64) || decide (Builtin.Int.intBits i + Builtin.Int.intBits j ≤ 134217728))
def divB (j : Int) : Bool := decide (0 < j) && decide (j.natAbs.log2 < 9000)
def powB (i j : Int) : Bool := decide (0 ≤ j) && (decide (j ≤ 1000000) && decide (i.natAbs < 2 ^ 64))
def ibin (o : Operator) (i j : Int) : Option Int := match o with
  | .Add => some (i + j)
  | .Sub => some (i - j)
  | .Mult => if mulB i j = true then some (i * j) else none
  | .FloorDiv => if divB j = true then some (i / j) else none
  | .Mod => if 0 < j then some (i % j) else none
  | .Pow => if powB i j = true then some (i ^ j.toNat) else none
  | _ => none
def seqOp (o : Operator) (m : Bool) (a b : W) (h : Hs) : Res W := match o, sq a h with
  | .Add, some (t, xs) => (match sq b h with
    | some (u, ys) => if t = u then (if t = true then mkt (xs ++ ys) h else mkl m (xs ++ ys) h) else .no
    | none => .no)
  | .Mult, some (t, xs) => (match b with
    | .d (.int k) => if 0 ≤ k ∧ k ≤ 1000 ∧ xs.length ≤ 1000 ∧ (t = true → xs ≠ [] ∧ 2 ≤ k) then
        (if t = true then mkt (List.replicate k.toNat xs).flatten h else mkl m (List.replicate k.toNat xs).flatten h) else .no
    | _ => .no)
  | _, _ => .no
def binW (o : Operator) (m : Bool) (a b : W) (h : Hs) : Res W := match a, b with
  | .d (.int i), .d (.int j) => (match ibin o i j with
    | some k => rok (.int k) h
    | none => .no)
  | .d (.str x), .d (.str y) => (match o with
    | .Add => if x.length + y.length ≤ lim then rok (.str (x ++ y)) h else .no
    | _ => .no)
  | a, b => seqOp o m a b h
def isNone : W → Bool
  | .d .none => true
  | _ => false
def shp (x : D) : Bool := SeqAt.shaped x
/-- what can be put in order -/
def ordB (x y : D) : Bool := PySem.W.alike x y && (shp x && shp y)
def ltD (x y : D) : Option Bool := match x, y with
  | .int i, .int j => some (decide (i < j))
  | .tuple xs, .tuple ys => if ordB (.tuple xs) (.tuple ys) = true then some (PySem.W.dataLt (.tuple xs) (.tuple ys)) else none
  | _, _ => none
/-- the keys of dicts: tuples of numbers, texts, None, nested -/
def keyT : D → Bool
  | .tuple xs => (match nk (.tuple xs) with
    | some k => decide (k.depth ≤ 8)
    | none => false)
  | _ => false
def look {α : Type} (kvs : List (D × α)) (k : D) : Option α := (kvs.find? fun kv => PyData.eqv kv.1 k).map (·.2)
def put {α : Type} : List (D × α) → D → α → List (D × α)
  | [], k, v => [(k, v)]
  | kv :: r, k, v => if PyData.eqv kv.1 k = true then (kv.1, v) :: r else kv :: put r k v
def memW (a b : W) (h : Hs) : Option Bool := match dq b h with
  | some kvs => (match a with
    | .d k => if keyT k = true then some (look kvs k).isSome else none
    | _ => none)
  | none => match vw a h with
    | none => none
    | some x => match vw b h with
      | some (.str y) => (match x with
        | .str x => if x.length = 1 ∧ y.length ≤ lim then (match x.cps.toList with
          | [c] => some (decide (c ∈ y.cps.toList))
          | _ => none) else none
        | _ => none)
      | some (.list ys) => if shp x = true ∧ shp (.list ys) = true then some (ys.any fun z => PyData.eqv z x) else none
      | some (.tuple ys) => if shp x = true ∧ shp (.tuple ys) = true then some (ys.any fun z => PyData.eqv z x) else none
      | _ => none
def cmpB (o : CmpOp) (a b : W) (h : Hs) : Option Bool := match o with
  | .Is => (match b with
    | .d .none => some (isNone a)
    | _ => none)
  | .IsNot => (match b with
    | .d .none => some (!isNone a)
    | _ => none)
  | .In => memW a b h
  | .NotIn => (memW a b h).map (!·)
  | .Eq => (match vw a h, vw b h with
    | some x, some y => if shp x = true ∧ shp y = true then some (PyData.eqv x y) else none
    | _, _ => none)
  | .NotEq => (match vw a h, vw b h with
    | some x, some y => if shp x = true ∧ shp y = true then some (!PyData.eqv x y) else none
    | _, _ => none)
  | .Lt => (match a, b with
    | .d x, .d y => ltD x y
    | _, _ => none)
  | .Gt => (match a, b with
    | .d (.int i), .d (.int j) => some (decide (j < i))
    | _, _ => none)
  | .LtE => (match a, b with
    | .d (.int i), .d (.int j) => some (decide (i ≤ j))
    | _, _ => none)
  | .GtE => (match a, b with
    | .d (.int i), .d (.int j) => some (decide (j ≤ i))
    | _, _ => none)
def cmpW (o : CmpOp) (a b : W) (h : Hs) : Res W := match cmpB o a b h with
  | some c => rok (.bool c) h
  | none => .no
def subW (a b : W) (h : Hs) : Res W := match dq a h with
  | some kvs => (match b with
    | .d k => (match (if keyT k = true then look kvs k else none) with
      | some w => .ok w h
      | none => .no)
    | _ => .no)
  | none => match sq a h, b with
    | some (_, ws), .d (.int i) => (match atI ws i with
      | some w => .ok w h
      | none => .no)
    | _, _ => .no
/-- a cut from lo to hi -/
def cutW {α : Type} (xs : List α) (lo hi : Option Int) : List α := (xs.drop (HT.sIx xs.length 0 lo)).take (HT.sIx xs.length xs.length hi - HT.sIx xs.length 0 lo)
def slcW (m : Bool) (a : W) (lo hi : Option Int) (h : Hs) : Res W := match sq a h with
  | some (true, ws) => mkt (cutW ws lo hi) h
  | some (false, ws) => mkl m (cutW ws lo hi) h
  | none => .no
def isiB (x : D) (t : Ty) : Bool := match t, x with
  | .int, .int _ => true
  | .int, .bool _ => true
  | .bool, .bool _ => true
  | .str, .str _ => true
  | .tuple, .tuple _ => true
  | .list, .list _ => true
  | _, _ => false
def isiW (w : W) (t : Ty) (h : Hs) : Option Bool := match w with
  | .d (.dict _) => none
  | .d x => some (isiB x t)
  | .r n => match h[n]? with
    | some (.lst _) => some (decide (t = .list))
    | _ => none
  | _ => none
/-! ### built-ins and methods -/
def bools : List W → Option (List Bool)
  | [] => some []
  | .d (.bool b) :: r => (bools r).map (b :: ·)
  | _ => none
def intsW : List W → Option (List Int)
  | [] => some []
  | .d (.int i) :: r => (intsW r).map (i :: ·)
  | _ => none
def srtB (ds : List D) : Bool := (ds.all fun x => ds.all fun y => PySem.W.alike x y) && ds.all shp
def srtK : List D → Bool := fun ds => (ds.all fun x => match x with
    | .tuple _ => true
    | _ => false) || ds.all fun x => match x with
    | .tuple _ => false
    | .none => false
    | _ => true
def pairs : List W → Option (List (D × W))
  | [] => some []
  | .d (.tuple [k, v]) :: r => (pairs r).map ((k, .d v) :: ·)
  | _ => none
def puts {α : Type} (acc : List (D × α)) : List (D × α) → List (D × α)
  | [] => acc
  | kv :: r => puts (put acc kv.1 kv.2) r
def allV {α : Type} (f : α → Option D) : List (D × α) → Option (List (D × D))
  | [] => some []
  | (k, v) :: r => match f v, allV f r with
    | some x, some xs => some ((k, x) :: xs)
    | _, _ => none
def datW : W → Option D
  | .d x => some x
  | _ => none
def mkd (m : Bool) (kvs : List (D × W)) (h : Hs) : Res W :=
  if m = true then .ok (.r h.length) (h ++ [.dct false kvs])
  else match allV datW kvs with
    | some ds => rok (.dict ds) h
    | none => .no
def bifW (b : Bi) (m : Bool) (ws : List W) (h : Hs) : Res W := match b, ws with
  | .len, [w] => (match w with
    | .d (.str s) => if s.length ≤ lim then rok (.int s.length) h else .no
    | w => match sq w h with
      | some (_, xs) => rok (.int xs.length) h
      | none => match dq w h with
        | some kvs => if kvs.length ≤ lim then rok (.int kvs.length) h else .no
        | none => .no)
  | .all, [w] => (match sq w h with
    | some (false, xs) => (match bools xs with
      | some bs => rok (.bool (bs.all id)) h
      | none => .no)
    | _ => .no)
  | .any, [w] => (match sq w h with
    | some (false, xs) => (match bools xs with
      | some bs => rok (.bool (bs.any id)) h
      | none => .no)
    | _ => .no)
  | .tuple, [w] => (match sq w h with
    | some (_, xs) => mkt xs h
    | none => .no)
  | .list, [w] => (match sq w h with
    | some (_, xs) => mkl m xs h
    | none => .no)
  | .sorted, [w] => (match vw w h with
    | some (.list ds) => if srtB ds = true ∧ srtK ds = true ∧ ds.length ≤ lim then
        mkl m ((ds.mergeSort (PySem.W.dataLe false id)).map W.d) h else .no
    | _ => .no)
  | .dict, [w] => (match sq w h with
    | some (_, xs) => (match pairs xs with
      | some kvs => if (kvs.all fun kv => keyT kv.1) = true ∧ kvs.length ≤ lim then mkd m (puts [] kvs) h else .no
      | none => .no)
    | none => .no)
  | .int, [.d (.int i)] => rok (.int i) h
  | .int, [.d (.bool b)] => rok (.int (if b = true then 1 else 0)) h
  | .abs, [.d (.int i)] => rok (.int (if i < 0 then -i else i)) h
  | .max2, [.d (.int i), .d (.int j)] => rok (.int (if j > i then j else i)) h
  | .min2, [.d (.int i), .d (.int j)] => rok (.int (if j < i then j else i)) h
  | .sum, [w] => (match sq w h with
    | some (false, xs) => (match intsW xs with
      | some ns => rok (.int ns.sum) h
      | none => .no)
    | _ => .no)
  | _, _ => .no
def fndX (xs : List D) (x : D) : Option Nat := xs.findIdx? fun z => PyData.eqv z x
def mthW (m : Mt) (w : W) (ws : List W) (h : Hs) : Res W := match m, ws with
  | .append, [v] => (match w with
    | .r n => (match h[n]? with
      | some (.lst xs) => if xs.length < lim then .ok (.d .none) (h.set n (.lst (xs ++ [v]))) else .no
      | _ => .no)
    | _ => .no)
  | .pop0, [] => (match w with
    | .r n => (match h[n]? with
      | some (.lst xs) => (match xs[xs.length - 1]? with
        | some v => .ok v (h.set n (.lst xs.dropLast))
        | none => .no)
      | _ => .no)
    | _ => .no)
  | .pop1, [.d (.int i)] => (match w with
    | .r n => (match h[n]? with
      | some (.lst xs) => if 0 ≤ i ∧ xs.length ≤ lim then (match xs[i.toNat]? with
        | some v => .ok v (h.set n (.lst (xs.eraseIdx i.toNat)))
        | none => .no) else .no
      | _ => .no)
    | _ => .no)
  | .index, [.d x] => (match vw w h with
    | some (.list ds) => if shp (.list ds) = true ∧ shp x = true then (match fndX ds x with
        | some j => rok (.int (j : Nat)) h
        | none => .no) else .no
    | some (.tuple ds) => if shp (.tuple ds) = true ∧ shp x = true then (match fndX ds x with
        | some j => rok (.int (j : Nat)) h
        | none => .no) else .no
    | _ => .no)
  | .get2, [.d k, v] => (match dq w h with
    | some kvs => if keyT k = true then .ok ((look kvs k).getD v) h else .no
    | none => .no)
  | .setdefault, [.d k, v] => (match w with
    | .r n => (match h[n]? with
      | some (.dct false kvs) => if keyT k = true ∧ kvs.length < lim then (match look kvs k with
          | some u => .ok u h
          | none => .ok v (h.set n (.dct false (put kvs k v)))) else .no
      | _ => .no)
    | _ => .no)
  | _, _ => .no
/-- what a method's receiver is: a list, a tuple, a dict -/
def kindW (x : W) (h : Hs) : Nat := match x with
  | .d (.list _) => 1
  | .d (.tuple _) => 2
  | .d (.dict _) => 3
  | .r n => (match h[n]? with
    | some (.lst _) => 1
    | some (.dct _ _) => 3
    | _ => 0)
  | _ => 0
def mtB (m : Mt) (k : Nat) : Bool := match m with
  | .index => k == 1 || k == 2
  | .get2 => k == 3
  | .setdefault => k == 3
  | _ => k == 1
/-! ### what a loop walks -/
def srcW (w : W) (h : Hs) : Res Src := match w with
  | .r n => (match h[n]? with
    | some (.lst ws) => .ok (.rf n ws.length) h
    | some (.dct _ kvs) => .ok (.ws (kvs.map fun kv => .one (.d kv.1))) (h.set n (.dct true kvs))
    | _ => .no)
  | .d (.dict kvs) => .ok (.ws (kvs.map fun kv => .one (.d kv.1))) h
  | .d (.str z) => .ok (.ws (z.cps.toList.map fun c => .one (.d (.str ⟨#[c]⟩)))) h
  | w => match sq w h with
    | some (_, ws) => .ok (.ws (ws.map .one)) h
    | none => .no
def lockW (f : D × W → Itm) (w : W) (h : Hs) : Res Src := match w with
  | .r n => (match h[n]? with
    | some (.dct _ kvs) => .ok (.ws (kvs.map f)) (h.set n (.dct true kvs))
    | _ => .no)
  | .d (.dict kvs) => .ok (.ws (kvs.map fun kv => f (kv.1, .d kv.2))) h
  | _ => .no
def rngL (lo hi : Int) : List Itm := (List.range (hi - lo).toNat).map fun i => .one (.d (.int (lo + (i : Nat))))
def rngW (ws : List W) (h : Hs) : Res Src := match ws with
  | [.d (.int j)] => if -(lim : Int) ≤ j ∧ j ≤ lim then .ok (.ws (rngL 0 j)) h else .no
  | [.d (.int i), .d (.int j)] => if -(lim : Int) ≤ i ∧ i ≤ lim ∧ -(lim : Int) ≤ j ∧ j ≤ lim then .ok (.ws (rngL i j)) h else .no
  | _ => .no
def enuL (ws : List W) : List Itm := ws.zipIdx.map fun p => .two (.d (.int (p.2 : Nat))) p.1
def nxt (n : Nat) (i : Nat) (h : Hs) : Option (Option W) := match h[n]? with
  | some (.lst ws) => some ws[i]?
  | _ => none
def Res.nx {α : Type} (r : Res α) : Res α := match r with
  | .ex _ _ => .no
  | r => r
section
variable (f : Itm → Hs → Res (List W))
/-- a comprehension's turns: f gives what a turn adds -/
def lcL : List Itm → Hs → Res (List W)
  | [], h => .ok [] h
  | x :: r, h => (f x h).bd fun us h1 => (lcL r h1).bd fun ws h2 => .ok (us ++ ws) h2
def lcR (n : Nat) : Nat → Nat → Hs → Res (List W)
  | 0, i, h => (match nxt n i h with
    | some none => .ok [] h
    | _ => .no)
  | k + 1, i, h => (match nxt n i h with
    | some none => .ok [] h
    | some (some x) => (f (.one x) h).bd fun us h1 => (lcR n k (i + 1) h1).bd fun ws h2 => .ok (us ++ ws) h2
    | none => .no)
def lcS (s : Src) (h : Hs) : Res (List W) := match s with
  | .ws xs => lcL f xs h
  | .rf n k => lcR f n k 0 h
end
def wipeE (e : Env) : List Nat → Env
  | [] => e
  | v :: vs => (wipeE e vs).set v none
/-! ### the context of an evaluation -/
structure Ct where
  fn : Nat → List W → Hs → Res W
  new : Nat → List W → Hs → Res W
  cn : Str → Option D
  sub : Str → Str → Option Bool
  att : Str → Str → Bool
  wf : Nat
  sp : Nat → List W → Hs → Res W
def ordW {α : Type} (us zs : List α) (ord : List Nat) : List α := us ++ ord.filterMap fun i => zs[i]?
/-- what a turn yields, to a loop's target -/
def Itm.by {α : Type} (x : Itm) (f : W → α) (g : W → W → α) : α := match x with
  | .one w => f w
  | .two w v => g w v
/-- a step per place -/
def setIx (w : W) (k v : W) (h : Hs) : Option Hs := match w with
  | .r n => (match h[n]?, k with
    | some (.lst xs), .d (.int i) => if 0 ≤ i ∧ i.toNat < xs.length then some (h.set n (.lst (xs.set i.toNat v))) else none
    | some (.dct false kvs), .d k => if keyT k = true ∧ kvs.length < lim then some (h.set n (.dct false (put kvs k v))) else none
    | _, _ => none)
  | _ => none
def putF {α : Type} : List (Str × α) → Str → α → List (Str × α)
  | [], f, v => [(f, v)]
  | p :: r, f, v => if p.1 = f then (f, v) :: r else p :: putF r f v
def setFd (att : Str → Str → Bool) (w : W) (f : Str) (v : W) (h : Hs) : Option Hs := match w with
  | .r n => (match h[n]? with
    | some (.ins c fs) => if att c f = true ∧ fs.length < 900 then some (h.set n (.ins c (putF fs f v))) else none
    | _ => none)
  | _ => none
mutual
def evE (C : Ct) : E → Env → Hs → Res W
  | .var i _ _, e, h => (match e[i]? with
    | some (some (.d x)) => .ok (.d x) h
    | some (some (.r n)) => .ok (.r n) h
    | _ => .no)
  | .int i _ _, _, h => rok (.int i) h
  | .str s _ _, _, h => rok (.str s) h
  | .bl b _ _, _, h => rok (.bool b) h
  | .non _ _, _, h => rok .none h
  | .glo x _, _, h => (match C.cn x with
    | some d => rok d h
    | none => .no)
  | .bin o m a b _, e, h => (evE C a e h).bd fun w h1 => (evE C b e h1).bd fun v h2 => binW o m w v h2
  | .neg a _, e, h => (evE C a e h).bd fun w h1 => (match w with
    | .d (.int i) => rok (.int (-i)) h1
    | _ => .no)
  | .nott a _, e, h => (evE C a e h).bd fun w h1 => (match tru w h1 with
    | some b => rok (.bool (!b)) h1
    | none => .no)
  | .and_ es _, e, h => evAnd C es e h
  | .or_ es _, e, h => evOr C es e h
  | .cmp o a b _, e, h => (evE C a e h).bd fun w h1 => (evE C b e h1).bd fun v h2 => cmpW o w v h2
  | .chn o o' a b c _, e, h => (evE C a e h).bd fun w h1 => (evE C b e h1).bd fun v h2 => (match cmpB o w v h2 with
    | some true => (evE C c e h2).bd fun u h3 => cmpW o' v u h3
    | some false => rok (.bool false) h2
    | none => .no)
  | .ite c a b _, e, h => (evE C c e h).bd fun w h1 => (match tru w h1 with
    | some true => evE C a e h1
    | some false => evE C b e h1
    | none => .no)
  | .tup es _ _, e, h => (evEs C es e h).bd fun ws h1 => mkt ws h1
  | .lst m es _, e, h => (evEs C es e h).bd fun ws h1 => mkl m ws h1
  | .dic _, _, h => .ok (.r h.length) (h ++ [.dct false []])
  | .sub a b _, e, h => (evE C a e h).bd fun w h1 => (evE C b e h1).bd fun v h2 => subW w v h2
  | .slc m a lo hi _ _, e, h => (evE C a e h).bd fun w h1 => (evO C lo e h1).bd fun i h2 => (evO C hi e h2).bd fun j h3 => slcW m w i j h3
  | .rev m a _ _ _ _ _, e, h => (evE C a e h).bd fun w h1 => (match sq w h1 with
    | some (false, ws) => mkl m ws.reverse h1
    | _ => .no)
  | .fld a f _, e, h => (evE C a e h).bd fun w h1 => (match w with
    | .r n => (match h1[n]? with
      | some (.ins c fs) => if C.att c f = true then (match fs.lookup f with
        | some v => .ok v h1
        | none => .no) else .no
      | _ => .no)
    | _ => .no)
  | .exf i _ f _ _, e, h => (match e[i]? with
    | some (some (.x g y)) => if g = f then rok y h else .no
    | _ => .no)
  | .cal f _ es ks ord _ _, e, h => (evEs C es e h).bd fun us h1 => (evKs C ks e h1).bd fun zs h2 => C.fn f (ordW us zs ord) h2
  | .mcl f c m a es ks ord _ _, e, h => (evE C a e h).bd fun w h1 => (match w with
    | .r n => (match h1[n]? with
      | some (.ins c' fs) => if c' = c ∧ fs.lookup m = none then (evEs C es e h1).bd fun us h2 => (evKs C ks e h2).bd fun zs h3 => C.fn f (.r n :: ordW us zs ord) h3 else .no
      | _ => .no)
    | _ => .no)
  | .new c _ es ks ord _ _, e, h => (evEs C es e h).bd fun us h1 => (evKs C ks e h1).bd fun zs h2 => C.new c (ordW us zs ord) h2
  | .bif b m es _ _, e, h => (evEs C es e h).bd fun ws h1 => bifW b m ws h1
  | .isi a t _ _ _, e, h => (evE C a e h).bd fun w h1 => (match isiW w t h1 with
    | some b => rok (.bool b) h1
    | none => .no)
  | .leni f c a _ _, e, h => (evE C a e h).bd fun w h1 => (match w with
    | .r n => (match h1[n]? with
      | some (.ins c' _) => if c' = c then (C.sp f [.r n] h1).bd fun u h2 => (match u with
        | .d (.int i) => if 0 ≤ i ∧ i < 2 ^ 63 then rok (.int i) h2 else .no
        | _ => .no) else .no
      | _ => .no)
    | _ => .no)
  | .mth m a es _ _, e, h => (evE C a e h).bd fun w h1 => if mtB m (kindW w h1) = true then (evEs C es e h1).bd fun ws h2 => if kindW w h2 = kindW w h1 then mthW m w ws h2 else .no else .no
  | .lc m elt tg it cs own _ _, e, h => (evI C it e h).bd fun s h1 => Res.bd (lcS (fun x h2 => Res.nx ((x.by (fun w => asW C tg w (wipeE e (own.map (·.2))) h2) fun w v => asP C tg w v (wipeE e (own.map (·.2))) h2).bd fun e3 h3 =>
      (evC C cs e3 h3).bd fun b h4 => if b = true then (evE C elt e3 h4).bd fun w h5 => .ok [w] h5 else .ok [] h4)) s h1) fun ws h2 => mkl m ws h2
  | .lc2 m elt tg it cs tg' it' cs' own vs' _ _, e, h => (evI C it e h).bd fun s h1 => Res.bd (lcS (fun x h2 => Res.nx ((x.by (fun w => asW C tg w (wipeE e (own.map (·.2))) h2) fun w v => asP C tg w v (wipeE e (own.map (·.2))) h2).bd fun e3 h3 =>
      (evC C cs e3 h3).bd fun b h4 => if b = true then (evI C it' e3 h4).bd fun s' h5 => lcS (fun y h6 => Res.nx ((y.by (fun w => asW C tg' w (wipeE e3 vs') h6) fun w v => asP C tg' w v (wipeE e3 vs') h6).bd fun e7 h7 =>
        (evC C cs' e7 h7).bd fun b' h8 => if b' = true then (evE C elt e7 h8).bd fun w h9 => .ok [w] h9 else .ok [] h8)) s' h5 else .ok [] h4)) s h1) fun ws h2 => mkl m ws h2
def evAnd (C : Ct) : Es → Env → Hs → Res W
  | .nil, _, _ => .no
  | .cons a r, e, h => (match r with
    | .nil => evE C a e h
    | .cons _ _ => (evE C a e h).bd fun w h1 => (match tru w h1 with
      | some true => evAnd C r e h1
      | some false => .ok w h1
      | none => .no))
def evOr (C : Ct) : Es → Env → Hs → Res W
  | .nil, _, _ => .no
  | .cons a r, e, h => (match r with
    | .nil => evE C a e h
    | .cons _ _ => (evE C a e h).bd fun w h1 => (match tru w h1 with
      | some true => .ok w h1
      | some false => evOr C r e h1
      | none => .no))
def evEs (C : Ct) : Es → Env → Hs → Res (List W)
  | .nil, _, h => .ok [] h
  | .cons a r, e, h => (evE C a e h).bd fun w h1 => (evEs C r e h1).bd fun ws h2 => .ok (w :: ws) h2
def evKs (C : Ct) : Ks → Env → Hs → Res (List W)
  | .nil, _, h => .ok [] h
  | .cons _ a _ r, e, h => (evE C a e h).bd fun w h1 => (evKs C r e h1).bd fun ws h2 => .ok (w :: ws) h2
/-- an end of a cut -/
def evO (C : Ct) : Oe → Env → Hs → Res (Option Int)
  | .none, _, h => .ok none h
  | .some a, e, h => (evE C a e h).bd fun w h1 => (match w with
    | .d (.int i) => .ok (some i) h1
    | _ => .no)
/-- a comprehension's test -/
def evC (C : Ct) : Oe → Env → Hs → Res Bool
  | .none, _, h => .ok true h
  | .some a, e, h => (evE C a e h).bd fun w h1 => (match tru w h1 with
    | some b => .ok b h1
    | none => .no)
def evI (C : Ct) : It → Env → Hs → Res Src
  | .exp a, e, h => (evE C a e h).bd fun w h1 => srcW w h1
  | .rng es _ _, e, h => (evEs C es e h).bd fun ws h1 => rngW ws h1
  | .enu a _ _, e, h => (evE C a e h).bd fun w h1 => (match w with
    | .d (.list ds) => .ok (.ws (enuL (ds.map W.d))) h1
    | _ => .no)
  | .zip a b _ _, e, h => (evE C a e h).bd fun w h1 => (evE C b e h1).bd fun v h2 => (match w, v with
    | .d (.list xs), .d (.list ys) => .ok (.ws (List.zipWith .two (xs.map W.d) (ys.map W.d))) h2
    | .d (.tuple xs), .d (.tuple ys) => .ok (.ws (List.zipWith .two (xs.map W.d) (ys.map W.d))) h2
    | _, _ => .no)
  | .vals a _ _, e, h => (evE C a e h).bd fun w h1 => lockW (fun kv => .one kv.2) w h1
  | .items a _ _, e, h => (evE C a e h).bd fun w h1 => lockW (fun kv => .two (.d kv.1) kv.2) w h1
/-- a target gets a value -/
def asW (C : Ct) : Tg → W → Env → Hs → Res Env
  | .var i _ _, w, e, h => .ok (e.set i (some w)) h
  | .tup ts _ _, w, e, h => (match sq w h with
    | some (_, ws) => asWs C ts ws e h
    | none => .no)
  | .sub a b _, w, e, h => (evE C a e h).bd fun o h1 => (evE C b e h1).bd fun k h2 => (match setIx o k w h2 with
    | some h3 => .ok e h3
    | none => .no)
  | .fld a f _, w, e, h => (evE C a e h).bd fun o h1 => (match setFd C.att o f w h1 with
    | some h2 => .ok e h2
    | none => .no)
def asWs (C : Ct) : Tgs → List W → Env → Hs → Res Env
  | .nil, ws, e, h => (match ws with
    | [] => .ok e h
    | _ => .no)
  | .cons t r, ws, e, h => (match ws with
    | w :: ws' => (asW C t w e h).bd fun e1 h1 => asWs C r ws' e1 h1
    | [] => .no)
/-- a target gets a pair -/
def asP (C : Ct) : Tg → W → W → Env → Hs → Res Env
  | .tup (.cons t (.cons u .nil)) _ _, a, b, e, h => (asW C t a e h).bd fun e1 h1 => asW C u b e1 h1
  | _, _, _, _, _ => .no
end
end Rf
/-! Statements, defs, the table of a text. -/
namespace Rf
open PySem PySem.Spec PyProof.Rows L2
inductive Out where
  | nx (e : Env) (h : Hs)
  | rt (w : W) (h : Hs)
  | bk (e : Env) (h : Hs)
  | ct (e : Env) (h : Hs)
  | ex (x : Exn) (e : Env) (h : Hs)
  | no
def Res.out {α : Type} (r : Res α) (e : Env) (k : α → Hs → Out) : Out := match r with
  | .ok a h => k a h
  | .ex x h => .ex x e h
  | .no => .no
section
variable (f : Itm → Env → Hs → Out)
def forL : List Itm → Env → Hs → Out
  | [], e, h => .nx e h
  | x :: r, e, h => match f x e h with
    | .nx e1 h1 => forL r e1 h1
    | .ct e1 h1 => forL r e1 h1
    | .bk e1 h1 => .nx e1 h1
    | o => o
def forR (n : Nat) : Nat → Nat → Env → Hs → Out
  | 0, i, e, h => (match nxt n i h with
    | some none => .nx e h
    | _ => .no)
  | k + 1, i, e, h => (match nxt n i h with
    | some none => .nx e h
    | some (some x) => (match f (.one x) e h with
      | .nx e1 h1 => forR n k (i + 1) e1 h1
      | .ct e1 h1 => forR n k (i + 1) e1 h1
      | .bk e1 h1 => .nx e1 h1
      | o => o)
    | none => .no)
def forS (s : Src) (e : Env) (h : Hs) : Out := match s with
  | .ws xs => forL f xs e h
  | .rf n k => forR f n k 0 e h
end
section
variable (c : Env → Hs → Res Bool) (f : Env → Hs → Out)
def whlL : Nat → Env → Hs → Out
  | 0, _, _ => .no
  | n + 1, e, h => (c e h).out e fun b h1 => if b = true then (match f e h1 with
      | .nx e1 h2 => whlL n e1 h2
      | .ct e1 h2 => whlL n e1 h2
      | .bk e1 h2 => .nx e1 h2
      | o => o) else .nx e h1
end
/-- behind an except suite the name is gone -/
def Out.gone (i : Nat) : Out → Out
  | .nx e h => .nx (e.set i none) h
  | .bk e h => .bk (e.set i none) h
  | .ct e h => .ct (e.set i none) h
  | .rt w h => .rt w h
  | _ => .no
def Out.nox : Out → Out
  | .ex _ _ _ => .no
  | o => o
def Exn.w (x : Exn) : Option W := x.fld.map fun p => .x p.1 p.2
def tst (r : Res W) : Res Bool := r.bd fun w h => match tru w h with
  | some b => .ok b h
  | none => .no
mutual
def evS (C : Ct) : S → Env → Hs → Out
  | .skip, e, h => .nx e h
  | .seq a b, e, h => (match evS C a e h with
    | .nx e1 h1 => evS C b e1 h1
    | o => o)
  | .asg t x _, e, h => (evE C x e h).out e fun w h1 => (asW C t w e h1).nx.out e fun e2 h2 => .nx e2 h2
  | .par2 i j _ _ a b _ _ _ _ _ _ _, e, h => (evE C a e h).out e fun w h1 => (evE C b e h1).out e fun v h2 => .nx ((e.set i (some w)).set j (some v)) h2
  | .par3 i j l _ _ _ a b c _ _ _ _ _ _ _ _, e, h => (evE C a e h).out e fun w h1 => (evE C b e h1).out e fun v h2 => (evE C c e h2).out e fun u h3 => .nx (((e.set i (some w)).set j (some v)).set l (some u)) h3
  | .aug o i _ _ x _, e, h => (match e[i]? with
    | some (some (.d (.int a))) => (evE C x e h).out e fun w h1 => (match w with
      | .d (.int b) => (match o with
        | .Add => .nx (e.set i (some (.d (.int (a + b))))) h1
        | .Sub => .nx (e.set i (some (.d (.int (a - b))))) h1
        | _ => .no)
      | _ => .no)
    | _ => .no)
  | .exp x _, e, h => (evE C x e h).out e fun _ h1 => .nx e h1
  | .ret x _, e, h => (evE C x e h).out e fun w h1 => .rt w h1
  | .retN _, _, h => .rt (.d .none) h
  | .ite c a b _, e, h => (tst (evE C c e h)).out e fun t h1 => if t = true then evS C a e h1 else evS C b e h1
  | .for_ t it b _, e, h => (evI C it e h).out e fun s h1 => forS (fun x e2 h2 => (x.by (fun w => asW C t w e2 h2) fun w v => asP C t w v e2 h2).nx.out e2 fun e3 h3 => evS C b e3 h3) s e h1
  | .whl c b _, e, h => whlL (fun e1 h1 => tst (evE C c e1 h1)) (fun e1 h1 => evS C b e1 h1) C.wf e h
  | .brk _, e, h => .bk e h
  | .cnt _, e, h => .ct e h
  | .pas _, e, h => .nx e h
  | .rai x _ _ _ _ _ _, e, h => .ex ⟨x, none⟩ e h
  | .raf x f y _ _ _, e, h => (evE C y e h).out e fun w h1 => (match w with
    | .d d => .ex ⟨x, some (f, d)⟩ e h1
    | _ => .no)
  | .try_ b hs _, e, h => (match evS C b e h with
    | .ex x e1 h1 => evH C hs x e1 h1
    | o => o)
  | .hd _ _ _ _ _ _, _, _ => .no
def evH (C : Ct) : S → Exn → Env → Hs → Out
  | .hd c _ nm b _ r, x, e, h => (match C.sub x.cls c with
    | some true => (match nm with
      | none => (evS C b e h).nox
      | some q => (evS C b (e.set q.1 x.w) h).gone q.1)
    | some false => evH C r x e h
    | none => .no)
  | _, x, e, h => .ex x e h
end
/-! ### defs and classes -/
structure FEnt where
  cls : Option Str
  name : Str
  glob : Str
  ps : List Str
  N : List Str
  body : S
  frz : Bool
  qual : Str
  ar : Arguments
  sc : Scope
structure CEnt where
  name : Str
  init : Nat
structure Tab where
  fns : List FEnt
  cls : List CEnt
  cns : List (Str × D)
  sub : List (Str × Str × Bool)
  att : List (Str × Str)
  frees : List Str
  kws : List (Nat × Nat × List Str × List Nat)
  nkw : List (Nat × Nat × List Str × List Nat)
  exs : List Str
  exf : List (Str × Str)
def W.ltb (n : Nat) : W → Bool
  | .r k => decide (k < n)
  | _ => true
def Ob.ltb (n : Nat) : Ob → Bool
  | .lst ws => ws.all (W.ltb n)
  | .dct _ kvs => kvs.all fun kv => kv.2.ltb n
  | .ins _ fs => fs.all fun p => p.2.ltb n
/-- nothing ahead of n hangs on what stands behind -/
def clean (n : Nat) (h : Hs) : Bool := (h.take n).all (Ob.ltb n)
def trim (n : Nat) (h : Hs) : Hs := if clean n h = true then h.take n else h
def leave (fz : Bool) (n0 : Nat) (w : W) (h : Hs) : Res W := match w with
  | .r n => if fz = true then (if n0 ≤ n ∧ clean n0 h = true then (match h[n]? with
      | some (.lst ws) => (match allD ws with
        | some ds => .ok (.d (.list ds)) (h.take n0)
        | none => .no)
      | some (.dct false kvs) => (match allV datW kvs with
        | some ds => .ok (.d (.dict ds)) (h.take n0)
        | none => .no)
      | _ => .no) else .no) else .ok (.r n) h
  | .d x => .ok (.d x) (trim n0 h)
  | .x _ _ => .no
def W.sh (k : Nat) : W → W
  | .r n => .r (n + k)
  | w => w
def Ob.sh (k : Nat) : Ob → Ob
  | .lst ws => .lst (ws.map (W.sh k))
  | .dct l kvs => .dct l (kvs.map fun kv => (kv.1, kv.2.sh k))
  | .ins c fs => .ins c (fs.map fun p => (p.1, p.2.sh k))
/-- the end of a call that began in an empty heap, in the caller's heap -/
def home (r : Res W) (h : Hs) : Res W := match r with
  | .ok (.d x) _ => .ok (.d x) h
  | .ok w h' => .ok (w.sh h.length) (h ++ h'.map (Ob.sh h.length))
  | .ex x _ => .ex x h
  | .no => .no
def Out.res (fz : Bool) (n0 : Nat) : Out → Res W
  | .nx _ h => leave false n0 (.d .none) h
  | .rt w h => leave fz n0 w h
  | .ex x _ h => .ex x (trim n0 h)
  | _ => .no
def begE (fe : FEnt) (ws : List W) : Env := ws.map some ++ List.replicate (fe.N.length - ws.length) none
def runF (C : Ct) (fe : FEnt) (ws : List W) (h : Hs) : Res W :=
  if ws.length = fe.ps.length then
    if ws.all isD = true then home ((evS C fe.body (begE fe ws) []).res fe.frz 0) h
    else (evS C fe.body (begE fe ws) h).res fe.frz h.length
  else .no
def Tab.cn (T : Tab) (x : Str) : Option D := T.cns.lookup x
def Tab.at_ (T : Tab) (c f : Str) : Bool := T.att.any fun p => decide (p.1 = c) && decide (p.2 = f)
def Tab.sb (T : Tab) (x y : Str) : Option Bool := (T.sub.find? fun p => decide (p.1 = x) && decide (p.2.1 = y)).map (·.2.2)
/-- a new instance, by its __init__ -/
def mkG (c : Str) (g : List W → Hs → Res W) (ws : List W) (h : Hs) : Res W := match g (.r h.length :: ws) (h ++ [.ins c []]) with
  | .ok w h1 => if isNone w = true then .ok (.r h.length) h1 else .no
  | .ex x h1 => if clean h.length h1 = true then .ex x (h1.take h.length) else .no
  | .no => .no
def mkI (T : Tab) (call : Nat → List W → Hs → Res W) (c : Nat) (ws : List W) (h : Hs) : Res W := match T.cls[c]? with
  | some ce => mkG ce.name (call ce.init) ws h
  | none => .no
def callN (T : Tab) (wf : Nat) : Nat → Nat → List W → Hs → Res W
  | 0, _, _, _ => .no
  | 1, f, ws, h => (match T.fns[f]? with
    | some fe => runF ⟨fun _ _ _ => .no, fun _ _ _ => .no, T.cn, T.sb, T.at_, wf, fun _ _ _ => .no⟩ fe ws h
    | none => .no)
  | n + 2, f, ws, h => (match T.fns[f]? with
    | some fe => runF ⟨callN T wf (n + 1), mkI T (callN T wf n), T.cn, T.sb, T.at_, wf, callN T wf n⟩ fe ws h
    | none => .no)
end Rf
/-! How values and the small heap lie in the hand layer's heap. -/
namespace Rf
open PySem PySem.Spec PyProof.Rows L2
/-- a dict at a, its entries told raw -/
def tdic (P : Program) (w : World) (a : Addr) (xs : List (NestedKey × Addr × Value)) (ep : Nat) : HO :=
  .ext fun h => ∃ o es, h.get? a = some o ∧ o.ExactDict ∧ o.data = .dict es ep ∧ es.toList = xs.map (entryOfKey (nestedKind P w))
/-- a tuple that is known to its object: no dict stands beside it -/
def TF (K : PySem.W.Frag) (F : Hp) (a : Addr) (vs : List V) : Prop :=
  (∃ o, F a = some (.frz o (.tup vs)) ∧ o.dict = none) ∨
    ∃ (o : Obj) (its : Array Value) (n : Nat), K.lookup a = some o ∧ o.cls = .type "tuple" ∧ o.dict = none ∧ o.data = .seq its n ∧ its.size ≤ sizeLine ∧ Vals vs its.toList
theorem TF.sq {K : PySem.W.Frag} {F : Hp} {a : Addr} {vs : List V} (t : TF K F a vs) : SqT K F a vs := by
  rcases t with ⟨o, e, _⟩ | ⟨o, its, n, e1, e2, _, e4⟩
  · exact .inl (.inr ⟨o, e⟩)
  · exact .inr ⟨o, its, n, e1, e2, e4⟩
theorem TF.mono {K : PySem.W.Frag} {F F' : Hp} (x : ∀ a o, F a = some o → F' a = some o) {a : Addr} {vs : List V} (t : TF K F a vs) : TF K F' a vs := by
  rcases t with ⟨o, e, d⟩ | t
  · exact .inl ⟨o, x _ _ e, d⟩
  · exact .inr t
theorem TF.obj {X : Cx} {pins : List (Addr × Obj)} {σ : L2.St} {H : Hp} {s : Shared} {a : Addr} {vs : List V} (t : TF X.K H a vs) (I : L2.Inv X pins σ H s) : ∃ (o : Obj) (its : List Value) (n : Nat), s.heap.get? a = some o ∧ o.cls = .type "tuple" ∧ o.dict = none ∧ o.data = .seq its.toArray n ∧ Vals vs its ∧ vs.length ≤ sizeLine := by
  rcases t with ⟨o, e, d⟩ | ⟨o, its, n, e1, e2, e3, e4, e5, e6⟩
  · obtain ⟨g, z, its, r, o', g', c, n, dt⟩ := I.hok a _ e
    rw [g] at g'
    cases g'
    exact ⟨o, its, n, g, c, d, dt, r, z⟩
  · refine ⟨o, its.toList, n, I.kIn a o e1, e2, e3, by simpa using e4, e6, ?_⟩
    have l := e6.length
    simp only [Array.length_toList] at l
    omega
section
variable (P : Program) (w : World) (K : PySem.W.Frag)
mutual
/-- v is the datum, by the heap F -/
inductive RD (F : Hp) : V → D → Prop
  | non : RD F .non .none
  | bl (b : Bool) : RD F (.bl b) (.bool b)
  | int (i : Int) : RD F (.int i) (.int i)
  | str (x : Str) : RD F (.str x) (.str x)
  | lst {a : Addr} {vs : List V} {ds : List D} : Rd F a (.lst vs) → RDs F vs ds → RD F (.ref a) (.list ds)
  | tup {a : Addr} {vs : List V} {ds : List D} : TF K F a vs → RDs F vs ds → RD F (.ref a) (.tuple ds)
  | dct {a : Addr} {xs : List (NestedKey × Addr × Value)} {ep : Nat} {kvs : List (D × D)} : F a = some (tdic P w a xs ep) → (a == sysModules) = false → (xs.map (·.1)).Nodup → RK F xs kvs → RD F (.ref a) (.dict kvs)
inductive RDs (F : Hp) : List V → List D → Prop
  | nil : RDs F [] []
  | cons {v : V} {vs : List V} {d : D} {ds : List D} : RD F v d → RDs F vs ds → RDs F (v :: vs) (d :: ds)
inductive RK (F : Hp) : List (NestedKey × Addr × Value) → List (D × D) → Prop
  | nil : RK F [] []
  | cons {κ : NestedKey} {b : Addr} {u : Value} {v : V} {k d : D} {r : List (NestedKey × Addr × Value)} {r' : List (D × D)} : RD F (.ref b) k → keyT k = true → nk k = some κ → RelV v u → RD F v d → RK F r r' → RK F ((κ, b, u) :: r) ((k, d) :: r')
end
/-- v is the value -/
inductive RW (m : List Addr) (F : Hp) : V → W → Prop
  | d {v : V} {x : D} : RD P w K F v x → RW m F v (.d x)
  | r {n : Nat} {a : Addr} : m[n]? = some a → RW m F (.ref a) (.r n)
abbrev RWs (m : List Addr) (F : Hp) : List V → List W → Prop := Paired (RW P w K m F)
/-- a dict of the small heap -/
inductive RKW (m : List Addr) (F : Hp) : List (NestedKey × Addr × Value) → List (D × W) → Prop
  | nil : RKW m F [] []
  | cons {κ : NestedKey} {b : Addr} {u : Value} {v : V} {k : D} {x : W} {r : List (NestedKey × Addr × Value)} {r' : List (D × W)} : RD P w K F (.ref b) k → keyT k = true → nk k = some κ → RelV v u → RW P w K m F v x → RKW m F r r' → RKW m F ((κ, b, u) :: r) ((k, x) :: r')
abbrev RF (m : List Addr) (F : Hp) : List (Str × V) → List (Str × W) → Prop := Paired fun p q => p.1 = q.1 ∧ RW P w K m F p.2 q.2
def OB (m : List Addr) (F H : Hp) (a : Addr) : Ob → Prop
  | .lst ws => F a = none ∧ ∃ vs, H a = some (.lst vs) ∧ RWs P w K m F vs ws
  | .dct lk kvs => (lk = false → F a = none) ∧ (a == sysModules) = false ∧ ∃ xs ep, H a = some (tdic P w a xs ep) ∧ (lk = true → F a = some (tdic P w a xs ep)) ∧ (xs.map (·.1)).Nodup ∧ RKW P w K m F xs kvs
  | .ins c fs => F a = none ∧ ∃ dx vs, H a = some (.ins (He.ga K c) dx vs) ∧ RF P w K m F vs fs
/-- the small heap h lies at m, beside what never changes (F), in H -/
structure Sep (m : List Addr) (F : Hp) (h : Hs) (H : Hp) : Prop where
  len : m.length = h.length
  nd : m.Nodup
  sub : ∀ a o, F a = some o → H a = some o
  ob : ∀ (n : Nat) (o : Ob) (a : Addr), h[n]? = some o → m[n]? = some a → OB P w K m F H a o
end
/-- what a piece of a run may do -/
structure Stp (F : Hp) (m : List Addr) (H F' : Hp) (m' : List Addr) (H' : Hp) : Prop where
  ext : ∀ a o, F a = some o → F' a = some o
  pre : ∀ (n : Nat) (a : Addr), m[n]? = some a → m'[n]? = some a
  frm : ∀ a o, H a = some o → a ∉ m → H' a = some o
  newF : ∀ a o, F' a = some o → F a = some o ∨ H a = none ∨ a ∈ m ∨ ∃ fs, o = .xd fs
  newM : ∀ a, a ∈ m' → a ∈ m ∨ H a = none
  dom : ∀ a o, H a = some o → ∃ o', H' a = some o'
section
variable {P : Program} {w : World} {K : PySem.W.Frag} {F F' F'' H H' H'' : Hp} {m m' m'' : List Addr} {h h' : Hs}
theorem Stp.refl : Stp F m H F m H := ⟨fun _ _ e => e, fun _ _ e => e, fun _ _ e _ => e, fun _ _ e => .inl e, fun _ e => .inl e, fun _ o e => ⟨o, e⟩⟩
theorem Stp.trans (s : Stp F m H F' m' H') (t : Stp F' m' H' F'' m'' H'') : Stp F m H F'' m'' H'' where
  ext := fun a o e => t.ext a o (s.ext a o e)
  pre := fun n a e => t.pre n a (s.pre n a e)
  frm := fun a o e na => t.frm a o (s.frm a o e na) fun ha => by
    rcases s.newM a ha with z | z
    · exact na z
    · rw [z] at e; cases e
  newF := fun a o e => by
    have back : H' a = none → H a = none := fun z => by
      cases q : H a with
      | none => rfl
      | some u =>
        obtain ⟨u', e'⟩ := s.dom a u q
        rw [z] at e'; cases e'
    rcases t.newF a o e with z | z | z | z
    · exact s.newF a o z
    · exact .inr (.inl (back z))
    · rcases s.newM a z with y | y
      · exact .inr (.inr (.inl y))
      · exact .inr (.inl y)
    · exact .inr (.inr (.inr z))
  newM := fun a ha => by
    rcases t.newM a ha with z | z
    · exact s.newM a z
    · refine .inr ?_
      cases q : H a with
      | none => rfl
      | some u =>
        obtain ⟨u', e'⟩ := s.dom a u q
        rw [z] at e'; cases e'
  dom := fun a o e => by
    obtain ⟨o', e'⟩ := s.dom a o e
    exact t.dom a o' e'
theorem rd_mono (x : ∀ a o, F a = some o → F' a = some o) {a : Addr} {u : HO} (q : Rd F a u) : Rd F' a u := by
  rcases q with q | ⟨o, q⟩
  · exact .inl (x _ _ q)
  · exact .inr ⟨o, x _ _ q⟩
theorem sqT_mono (x : ∀ a o, F a = some o → F' a = some o) {a : Addr} {vs : List V} (q : SqT K F a vs) : SqT K F' a vs := by
  rcases q with (q | ⟨o, q⟩) | q
  · exact .inl (.inl (x _ _ q))
  · exact .inl (.inr ⟨o, x _ _ q⟩)
  · exact .inr q
mutual
theorem RD.mono (x : ∀ a o, F a = some o → F' a = some o) : ∀ {v : V} {d : D}, RD P w K F v d → RD P w K F' v d
  | _, _, .non => .non
  | _, _, .bl b => .bl b
  | _, _, .int i => .int i
  | _, _, .str z => .str z
  | _, _, .lst q r => .lst (rd_mono x q) (RDs.mono x r)
  | _, _, .tup q r => .tup (q.mono x) (RDs.mono x r)
  | _, _, .dct q s n r => .dct (x _ _ q) s n (RK.mono x r)
theorem RDs.mono (x : ∀ a o, F a = some o → F' a = some o) : ∀ {vs : List V} {ds : List D}, RDs P w K F vs ds → RDs P w K F' vs ds
  | _, _, .nil => .nil
  | _, _, .cons a b => .cons (RD.mono x a) (RDs.mono x b)
theorem RK.mono (x : ∀ a o, F a = some o → F' a = some o) : ∀ {xs : List (NestedKey × Addr × Value)} {kvs : List (D × D)}, RK P w K F xs kvs → RK P w K F' xs kvs
  | _, _, .nil => .nil
  | _, _, .cons a k b c d e => .cons (RD.mono x a) k b c (RD.mono x d) (RK.mono x e)
end
theorem RW.mono (x : ∀ a o, F a = some o → F' a = some o) (y : ∀ (n : Nat) a, m[n]? = some a → m'[n]? = some a) {v : V} {u : W} (r : RW P w K m F v u) : RW P w K m' F' v u := by
  cases r with
  | d r => exact .d (r.mono x)
  | r e => exact .r (y _ _ e)
theorem RWs.mono (x : ∀ a o, F a = some o → F' a = some o) (y : ∀ (n : Nat) a, m[n]? = some a → m'[n]? = some a) {vs : List V} {us : List W} (r : RWs P w K m F vs us) : RWs P w K m' F' vs us := Paired.mapP r fun _ _ z => z.mono x y
theorem RKW.mono (x : ∀ a o, F a = some o → F' a = some o) (y : ∀ (n : Nat) a, m[n]? = some a → m'[n]? = some a) {xs : List (NestedKey × Addr × Value)} {kvs : List (D × W)} (r : RKW P w K m F xs kvs) : RKW P w K m' F' xs kvs := by
  induction r with
  | nil => exact .nil
  | cons a k b c d _ ih => exact .cons (a.mono x) k b c (d.mono x y) ih
theorem RF.mono (x : ∀ a o, F a = some o → F' a = some o) (y : ∀ (n : Nat) a, m[n]? = some a → m'[n]? = some a) {vs : List (Str × V)} {us : List (Str × W)} (r : RF P w K m F vs us) : RF P w K m' F' vs us := Paired.mapP r fun _ _ z => ⟨z.1, z.2.mono x y⟩
theorem RW.stp (s : Stp F m H F' m' H') {v : V} {u : W} (r : RW P w K m F v u) : RW P w K m' F' v u := r.mono s.ext s.pre
theorem RWs.stp (s : Stp F m H F' m' H') {vs : List V} {us : List W} (r : RWs P w K m F vs us) : RWs P w K m' F' vs us := r.mono s.ext s.pre
/-- at every place of m something stands -/
theorem Sep.at_ (s : Sep P w K m F h H) {a : Addr} (ha : a ∈ m) : ∃ o, H a = some o := by
  obtain ⟨n, hn, e⟩ := List.mem_iff_getElem.mp ha
  have hl : n < h.length := by rw [← s.len]; exact hn
  have q := s.ob n h[n] a (List.getElem?_eq_getElem hl) (by rw [List.getElem?_eq_getElem hn, e])
  cases z : h[n] with
  | lst ws =>
    rw [z] at q
    obtain ⟨_, vs, e, _⟩ := q
    exact ⟨_, e⟩
  | dct l kvs =>
    rw [z] at q
    obtain ⟨_, _, xs, ep, e, _⟩ := q
    exact ⟨_, e⟩
  | ins c fs =>
    rw [z] at q
    obtain ⟨_, dx, vs, e, _⟩ := q
    exact ⟨_, e⟩
theorem Sep.notin (s : Sep P w K m F h H) {a : Addr} (e : H a = none) : a ∉ m := fun ha => by
  obtain ⟨o, z⟩ := s.at_ ha
  rw [e] at z; cases z
theorem Sep.noF (s : Sep P w K m F h H) {a : Addr} (e : H a = none) : F a = none := by
  cases q : F a with
  | none => rfl
  | some o =>
    have z := s.sub a o q
    rw [e] at z; cases z
theorem Sep.get (s : Sep P w K m F h H) {n : Nat} {a : Addr} (e : m[n]? = some a) : ∃ o, h[n]? = some o ∧ OB P w K m F H a o := by
  have hn : n < m.length := (List.getElem?_eq_some_iff.mp e).1
  have hl : n < h.length := by rw [← s.len]; exact hn
  exact ⟨h[n], List.getElem?_eq_getElem hl, s.ob n _ a (List.getElem?_eq_getElem hl) e⟩
theorem Sep.place (s : Sep P w K m F h H) {n : Nat} {o : Ob} (e : h[n]? = some o) : ∃ a, m[n]? = some a ∧ OB P w K m F H a o := by
  have hn : n < h.length := (List.getElem?_eq_some_iff.mp e).1
  have hl : n < m.length := by rw [s.len]; exact hn
  exact ⟨m[n], List.getElem?_eq_getElem hl, s.ob n o _ e (List.getElem?_eq_getElem hl)⟩
/-- an object's words where F, m and the heap grow beside it -/
theorem OB.mono {a : Addr} {o : Ob} (q : OB P w K m F H a o) (x : ∀ a o, F a = some o → F' a = some o) (y : ∀ (n : Nat) a, m[n]? = some a → m'[n]? = some a) (hH : H' a = H a) (hF : F a = none → F' a = none) : OB P w K m' F' H' a o := by
  cases o with
  | lst ws =>
    obtain ⟨f, vs, e, r⟩ := q
    exact ⟨hF f, vs, by rw [hH]; exact e, r.mono x y⟩
  | dct l kvs =>
    obtain ⟨f, ns, xs, ep, e, lk, nd, r⟩ := q
    exact ⟨fun z => hF (f z), ns, xs, ep, by rw [hH]; exact e, fun z => x _ _ (lk z), nd, r.mono x y⟩
  | ins c fs =>
    obtain ⟨f, dx, vs, e, r⟩ := q
    exact ⟨hF f, dx, vs, by rw [hH]; exact e, r.mono x y⟩
/-! ### the elementary steps -/
/-- a thing that never changes is laid at a new place -/
theorem Sep.layF (s : Sep P w K m F h H) {p : Addr} {o : HO} (np : H p = none) : Stp F m H (upd F p o) m (upd H p o) ∧ Sep P w K m (upd F p o) h (upd H p o) := by
  have fp : F p = none := s.noF np
  have hm : p ∉ m := s.notin np
  have ext : ∀ a u, F a = some u → upd F p o a = some u := fun a u e => by
    rw [upd_ne (ne_of_none e fp)]; exact e
  refine ⟨⟨ext, fun _ _ e => e, fun a u e _ => by rw [upd_ne (ne_of_none e np)]; exact e, fun a u e => ?_, fun _ e => .inl e, fun a u e => ⟨u, by rw [upd_ne (ne_of_none e np)]; exact e⟩⟩, s.len, s.nd, fun a u e => ?_, fun n u a e1 e2 => ?_⟩
  · by_cases ha : a = p
    · subst ha; exact .inr (.inl np)
    · rw [upd_ne ha] at e; exact .inl e
  · by_cases ha : a = p
    · subst ha; rw [upd_same] at e ⊢; exact e
    · rw [upd_ne ha] at e ⊢; exact s.sub a u e
  · have ha : a ≠ p := fun z => hm (by rw [← z]; exact List.mem_of_getElem? e2)
    exact (s.ob n u a e1 e2).mono ext (fun _ _ e => e) (upd_ne ha) fun z => by rw [upd_ne ha]; exact z
/-- a thing is laid that neither F nor the small heap speaks of -/
theorem Sep.layH (s : Sep P w K m F h H) {p : Addr} {o : HO} (np : H p = none) : Stp F m H F m (upd H p o) ∧ Sep P w K m F h (upd H p o) := by
  have hm : p ∉ m := s.notin np
  have fp : F p = none := s.noF np
  refine ⟨⟨fun _ _ e => e, fun _ _ e => e, fun a u e _ => by rw [upd_ne (ne_of_none e np)]; exact e, fun a u e => .inl e, fun _ e => .inl e, fun a u e => ⟨u, by rw [upd_ne (ne_of_none e np)]; exact e⟩⟩, s.len, s.nd, fun a u e => ?_, fun n u a e1 e2 => ?_⟩
  · rw [upd_ne (ne_of_none e fp)]; exact s.sub a u e
  · have ha : a ≠ p := fun z => hm (by rw [← z]; exact List.mem_of_getElem? e2)
    exact (s.ob n u a e1 e2).mono (fun _ _ e => e) (fun _ _ e => e) (upd_ne ha) fun z => z
/-- a new object of the small heap -/
theorem Sep.layO (s : Sep P w K m F h H) {p : Addr} {o : HO} {b : Ob} (np : H p = none) (hb : OB P w K (m ++ [p]) F (upd H p o) p b) : Stp F m H F (m ++ [p]) (upd H p o) ∧ Sep P w K (m ++ [p]) F (h ++ [b]) (upd H p o) := by
  have hm : p ∉ m := s.notin np
  have fp : F p = none := s.noF np
  have pre : ∀ (n : Nat) a, m[n]? = some a → (m ++ [p])[n]? = some a := fun n a e => by
    rw [List.getElem?_append_left (List.getElem?_eq_some_iff.mp e).1]; exact e
  refine ⟨⟨fun _ _ e => e, pre, fun a u e _ => by rw [upd_ne (ne_of_none e np)]; exact e, fun a u e => .inl e, fun a ha => ?_, fun a u e => ⟨u, by rw [upd_ne (ne_of_none e np)]; exact e⟩⟩, by rw [List.length_append, List.length_append, s.len]; rfl, ?_, fun a u e => ?_, fun n u a e1 e2 => ?_⟩
  · rcases List.mem_append.mp ha with z | z
    · exact .inl z
    · rw [List.mem_singleton.mp z]; exact .inr np
  · exact List.nodup_append.mpr ⟨s.nd, by simp, fun a ha b hb => by
      rw [List.mem_singleton.mp hb]
      rintro rfl
      exact hm ha⟩
  · rw [upd_ne (ne_of_none e fp)]; exact s.sub a u e
  · by_cases hn : n < h.length
    · rw [List.getElem?_append_left hn] at e1
      rw [List.getElem?_append_left (by rw [s.len]; exact hn)] at e2
      have ha : a ≠ p := fun z => hm (by rw [← z]; exact List.mem_of_getElem? e2)
      exact (s.ob n u a e1 e2).mono (fun _ _ e => e) pre (upd_ne ha) fun z => z
    · have l1 : (h ++ [b]).length = h.length + 1 := by simp
      have hn1 : n = h.length := by
        have := (List.getElem?_eq_some_iff.mp e1).1
        omega
      subst hn1
      rw [List.getElem?_append_right (Nat.le_refl _)] at e1
      rw [List.getElem?_append_right (by rw [s.len]; exact Nat.le_refl _)] at e2
      simp only [Nat.sub_self, List.getElem?_cons_zero, Option.some.injEq, s.len] at e1 e2
      subst e1 e2
      exact hb
/-- an object of the small heap is written -/
theorem Sep.write (s : Sep P w K m F h H) {n : Nat} {p : Addr} {o : HO} {b : Ob} (hp : m[n]? = some p) (fp : F p = none) (hb : OB P w K m F (upd H p o) p b) : Stp F m H F m (upd H p o) ∧ Sep P w K m F (h.set n b) (upd H p o) := by
  have hm : p ∈ m := List.mem_of_getElem? hp
  refine ⟨⟨fun _ _ e => e, fun _ _ e => e, fun a u e na => ?_, fun a u e => .inl e, fun _ e => .inl e, fun a u e => ?_⟩, by rw [List.length_set]; exact s.len, s.nd, fun a u e => ?_, fun k u a e1 e2 => ?_⟩
  · rw [upd_ne fun z => na (by rw [z]; exact hm)]; exact e
  · by_cases ha : a = p
    · subst ha; exact ⟨_, upd_same⟩
    · exact ⟨u, by rw [upd_ne ha]; exact e⟩
  · rw [upd_ne (ne_of_none e fp)]; exact s.sub a u e
  · by_cases hk : k = n
    · subst hk
      have hl : k < h.length := by
        have := (List.getElem?_eq_some_iff.mp hp).1
        rw [s.len] at this; exact this
      rw [List.getElem?_set_self hl] at e1
      rw [hp] at e2
      cases e1; cases e2
      exact hb
    · rw [List.getElem?_set_ne (Ne.symm hk)] at e1
      have ha : a ≠ p := fun z => by
        subst z
        have z1 := List.getElem?_eq_some_iff.mp e2
        have z2 := List.getElem?_eq_some_iff.mp hp
        exact hk ((List.getElem_inj s.nd).mp (z1.2.trans z2.2.symm))
      exact (s.ob k u a e1 e2).mono (fun _ _ e => e) (fun _ _ e => e) (upd_ne ha) fun z => z
end
end Rf
/-! What is wanted behind a piece of a run; operators by values. -/
namespace Rf
open PySem PySem.Spec PyProof.Rows L2
/-- the field f of a caught exception of the class at C can be read -/
def XfOk (K : PySem.W.Frag) (C : Addr) (f : Str) : Prop := XfC K C ∧ PySem.W.findIn K (.ref C) f = some none
section
variable (P : Program) (w : World) (K : PySem.W.Frag)
def ExR (F H : Hp) (x : Exn) (dx : Option Addr) : Prop := match x.fld with
  | none => dx = none
  | some p => (∃ a v, dx = some a ∧ H a = some (.xd [(p.1, v)]) ∧ RD P w K F v p.2) ∧ XfOk K (He.ga K x.cls) p.1
def Post {α β : Type} (R : List Addr → Hp → β → α → Prop) (E : XK) (F : Hp) (m : List Addr) (H : Hp) (r : Res α) (Q : β → Hp → Prop) : Prop := match r with
  | .ok a h => ∀ b F' m' H', Stp F m H F' m' H' → Sep P w K m' F' h H' → R m' F' b a → Q b H'
  | .ex x h => ∀ dx F' m' H', Stp F m H F' m' H' → Sep P w K m' F' h H' → ExR P w K F' H' x dx → E (.ref (He.ga K x.cls)) dx H'
  | .no => False
end
abbrev REq {α : Type} : List Addr → Hp → α → α → Prop := fun _ _ b a => b = a
section
variable {P : Program} {w : World} {K : PySem.W.Frag} {F F' H H' : Hp} {m m' : List Addr} {h : Hs} {E : XK}
theorem Post.step {α β : Type} {R : List Addr → Hp → β → α → Prop} {r : Res α} {Q : β → Hp → Prop} (s : Stp F m H F' m' H') (p : Post P w K R E F m H r Q) : Post P w K R E F' m' H' r Q := by
  cases r with
  | ok a h => exact fun b F2 m2 H2 t => p b F2 m2 H2 (s.trans t)
  | ex x h => exact fun dx F2 m2 H2 t => p dx F2 m2 H2 (s.trans t)
  | no => exact p
theorem Post.bind {α β γ δ : Type} {R : List Addr → Hp → β → α → Prop} {R' : List Addr → Hp → δ → γ → Prop} {r : Res α} {k : α → Hs → Res γ} {Q : δ → Hp → Prop} {Q' : β → Hp → Prop} (p : Post P w K R' E F m H (r.bd k) Q)
    (g : ∀ a h b F' m' H', r = .ok a h → Stp F m H F' m' H' → Sep P w K m' F' h H' → R m' F' b a → Post P w K R' E F' m' H' (k a h) Q → Q' b H') : Post P w K R E F m H r Q' := by
  cases r with
  | ok a h => exact fun b F2 m2 H2 t s q => g a h b F2 m2 H2 rfl t s q (Post.step t p)
  | ex x h => exact p
  | no => exact p
theorem Post.imp {α β : Type} {R : List Addr → Hp → β → α → Prop} {r : Res α} {Q Q' : β → Hp → Prop} (p : Post P w K R E F m H r Q) (g : ∀ b H', Q b H' → Q' b H') : Post P w K R E F m H r Q' := by
  cases r with
  | ok a h => exact fun b F2 m2 H2 t s q => g _ _ (p b F2 m2 H2 t s q)
  | ex x h => exact p
  | no => exact p
theorem Post.here {α β : Type} {R : List Addr → Hp → β → α → Prop} {a : α} {b : β} {Q : β → Hp → Prop} (p : Post P w K R E F m H (.ok a h) Q) (s : Sep P w K m F h H) (q : R m F b a) : Q b H := p b F m H Stp.refl s q
theorem Post.rok {x : D} {v : V} {Q : VK} (p : Post P w K (RW P w K) E F m H (rok x h) Q) (s : Sep P w K m F h H) (q : RD P w K F v x) : Q v H := p v F m H Stp.refl s (.d q)
/-! ### views -/
theorem rws_d : ∀ {vs : List V} {ds : List D}, RDs P w K F vs ds → RWs P w K m F vs (ds.map W.d)
  | _, _, .nil => .nil
  | _, _, .cons a b => .cons (.d a) (rws_d b)
theorem rds_all : ∀ {vs : List V} {ws : List W} {ds : List D}, RWs P w K m F vs ws → allD ws = some ds → RDs P w K F vs ds
  | _, _, _, .nil, e => by
    cases e; exact .nil
  | _, _, _, .cons (a := v) (b := x) a b, e => by
    cases a with
    | d a =>
      unfold allD at e
      obtain ⟨ds, e1, rfl⟩ := Option.map_eq_some_iff.mp e
      exact .cons a (rds_all b e1)
    | r e1 => cases e
theorem RDs.length : ∀ {vs : List V} {ds : List D}, RDs P w K F vs ds → vs.length = ds.length
  | _, _, .nil => rfl
  | _, _, .cons _ b => congrArg (· + 1) (RDs.length b)
theorem RWs.length {vs : List V} {ws : List W} (r : RWs P w K m F vs ws) : vs.length = ws.length := Paired.length r
/-- a list or a tuple, where it lies -/
theorem sq_at {x : W} {t : Bool} {ws : List W} {v : V} (s : Sep P w K m F h H) (r : RW P w K m F v x) (e : sq x h = some (t, ws)) :
    ∃ a vs, v = .ref a ∧ RWs P w K m F vs ws ∧ ((t = true ∧ TF K F a vs) ∨ (t = false ∧ Rd H a (.lst vs))) := by
  cases r with
  | d r =>
    cases r with
    | lst q r =>
      simp only [sq, Option.some.injEq, Prod.mk.injEq] at e
      obtain ⟨rfl, rfl⟩ := e
      exact ⟨_, _, rfl, rws_d r, .inr ⟨rfl, rd_mono s.sub q⟩⟩
    | tup q r =>
      simp only [sq, Option.some.injEq, Prod.mk.injEq] at e
      obtain ⟨rfl, rfl⟩ := e
      exact ⟨_, _, rfl, rws_d r, .inl ⟨rfl, q⟩⟩
    | non => cases e
    | bl b => cases e
    | int i => cases e
    | str z => cases e
    | dct _ _ _ _ => cases e
  | @r n a em =>
    obtain ⟨o, eo, ob⟩ := s.get em
    simp only [sq, eo] at e
    cases o with
    | lst xs =>
      simp only [Option.some.injEq, Prod.mk.injEq] at e
      obtain ⟨rfl, rfl⟩ := e
      obtain ⟨_, vs, eH, rr⟩ := ob
      exact ⟨a, vs, rfl, rr, .inr ⟨rfl, .inl eH⟩⟩
    | dct _ _ => cases e
    | ins _ _ => cases e
theorem Inv.rdL {X : Cx} {pins : List (Addr × Obj)} {σ : L2.St} {s : Shared} {a : Addr} {xs : List V} (I : L2.Inv X pins σ H s) (hH : Rd H a (.lst xs)) : xs.length ≤ sizeLine ∧ ∃ (its : List Value) (n : Nat), Vals xs its ∧ xs.length = its.length ∧ s.heap.get? a = some { cls := .type "list", data := .seq its.toArray n } := by
  obtain ⟨z, its, n, r, e⟩ := hH.ok I.hok
  exact ⟨z, its, n, r, r.length, e⟩
theorem lim_le {n : Nat} (h : n ≤ lim) : n ≤ sizeLine := Nat.le_trans h (by decide)
/-- a new tuple -/
theorem Post.mkt {vs : List V} {ws : List W} {Q : VK} (p : Post P w K (RW P w K) E F m H (mkt ws h) Q) (s : Sep P w K m F h H) (r : RWs P w K m F vs ws) : vs.length ≤ sizeLine ∧ (∀ a o, H a = none → o.dict = none → Q (.ref a) (upd H a (.frz o (.tup vs)))) ∧ ∀ a, TF K F a vs → Q (.ref a) H := by
  unfold Rf.mkt at p
  split at p
  · rename_i hl
    split at p
    · rename_i ds e
      have rd := rds_all r e
      refine ⟨by rw [r.length]; exact lim_le hl, fun a o na dn => ?_, fun a q => p _ F m H Stp.refl s (.d (.tup q rd))⟩
      obtain ⟨t, s'⟩ := s.layF (o := .frz o (.tup vs)) na
      exact p _ _ _ _ t s' (.d (.tup (.inl ⟨o, upd_same, dn⟩) (rd.mono t.ext)))
    · exact p.elim
  · exact p.elim
/-- a new list -/
theorem Post.mkl {mf : Bool} {vs : List V} {ws : List W} {Q : VK} (p : Post P w K (RW P w K) E F m H (mkl mf ws h) Q) (s : Sep P w K m F h H) (r : RWs P w K m F vs ws) : vs.length ≤ sizeLine ∧ ∀ a, H a = none → Q (.ref a) (upd H a (.lst vs)) := by
  unfold Rf.mkl at p
  split at p
  · rename_i hl
    refine ⟨by rw [r.length]; exact lim_le hl, fun a na => ?_⟩
    split at p
    · obtain ⟨t, s'⟩ := s.layO (o := .lst vs) (b := .lst ws) na ⟨s.noF na, vs, upd_same, r.mono (fun _ _ e => e) fun n a e => by
        rw [List.getElem?_append_left (List.getElem?_eq_some_iff.mp e).1]; exact e⟩
      refine p _ _ _ _ t s' (.r ?_)
      rw [List.getElem?_append_right (by rw [s.len]; exact Nat.le_refl _)]
      simp [s.len]
    · split at p
      · rename_i ds e
        obtain ⟨t, s'⟩ := s.layF (o := .lst vs) na
        exact p _ _ _ _ t s' (.d (.lst (.inl upd_same) ((rds_all r e).mono t.ext)))
      · exact p.elim
  · exact p.elim
/-! ### to the library's data -/
mutual
theorem RD.dp (hs : ∀ a o, F a = some o → H a = some o) : ∀ {d : D} {v : V}, RD P w K F v d → d.canLay0 = true → Dp K H v d
  | .none, _, r, _ => by cases r; exact .non
  | .bool b, _, r, _ => by cases r; exact .bl b
  | .int i, _, r, _ => by cases r; exact .int i
  | .str z, _, r, _ => by cases r; exact .str z
  | .list ds, _, r, c => by
    cases r with
    | lst q r => exact .lst (.inl (rd_mono hs q)) (RDs.dp hs r (by simpa [PyData.canLay0] using c))
  | .tuple ds, _, r, c => by
    cases r with
    | tup q r => exact .tup (q.mono hs).sq (RDs.dp hs r (by simpa [PyData.canLay0] using c))
  | .dict kvs, _, _, c => by simp [PyData.canLay0] at c
theorem RDs.dp (hs : ∀ a o, F a = some o → H a = some o) : ∀ {ds : List D} {vs : List V}, RDs P w K F vs ds → PyData.canLayAll0 ds = true → DpAll K H vs ds
  | [], _, r, _ => by cases r; exact .nil
  | d :: ds, _, r, c => by
    cases r with
    | cons a b =>
      have c' : d.canLay0 = true ∧ PyData.canLayAll0 ds = true := by simpa [PyData.canLayAll0] using c
      exact .cons (RD.dp hs a c'.1) (RDs.dp hs b c'.2)
end
theorem vw_dp {x : W} {d : D} {v : V} (s : Sep P w K m F h H) (r : RW P w K m F v x) (e : vw x h = some d) (c : shp d = true) : Dp K H v d := by
  have c0 : d.canLay0 = true := SeqAt.canLay_of_shaped c
  cases r with
  | d r =>
    simp only [vw, Option.some.injEq] at e
    subst e
    exact r.dp s.sub c0
  | @r n a em =>
    obtain ⟨o, eo, ob⟩ := s.get em
    simp only [vw, eo] at e
    cases o with
    | lst xs =>
      obtain ⟨ds, e1, rfl⟩ := Option.map_eq_some_iff.mp e
      obtain ⟨_, vs, eH, rr⟩ := ob
      exact .lst (.inl (.inl eH)) ((rds_all rr e1).dp s.sub (by simpa [PyData.canLay0] using c0))
    | dct _ _ => cases e
    | ins _ _ => cases e
end
/-! ### operators of two values -/
/-- the reading of an operation that f tells -/
def rB (P : Program) (w : World) (K : PySem.W.Frag) (E : XK) (f : W → W → Hs → Res W) : R2 := fun x y H Q => ∃ F m h a b, Sep P w K m F h H ∧ RW P w K m F x a ∧ RW P w K m F y b ∧ Post P w K (RW P w K) E F m H (f a b h) Q
section
variable {X : Cx}
theorem op_catS {pins : List (Addr × Obj)} {s : Shared} {σ : L2.St} {H : Hp} {a b : Addr} {xs ys : List V} {Q : VK} (I : L2.Inv X pins σ H s) (ha : Rd H a (.lst xs)) (hb : Rd H b (.lst ys)) (hz : xs.length + ys.length ≤ sizeLine)
    (q : ∀ p, H p = none → Q (.ref p) (upd H p (.lst (xs ++ ys)))) : wpAny (model X.prog X.w) X.A (binaryOp .Add (.ref a) (.ref b)) (EP X pins σ Q) X.xe s := by
  obtain ⟨_, its, n, r, hl, e⟩ := Inv.rdL I ha
  obtain ⟨_, its2, n2, r2, hl2, e2⟩ := Inv.rdL I hb
  refine PySem.P.add_list e e2 ?_ (by rw [List.size_toArray, List.size_toArray]; omega)
  have ea : its.toArray ++ its2.toArray = (its ++ its2).toArray := by simp
  rw [ea]
  exact ⟨.ref _, _, I.lnew (t' := s.toks) (r.append r2) (by rw [List.length_append]; omega), rfl, q _ I.fresh⟩
theorem mul_fits {i j : Int} (e : mulB i j = true) : IntMulOk i j := by
  unfold mulB at e
  simp only [Bool.or_eq_true, decide_eq_true_eq] at e
  rcases e with e | e | e
  · exact .of_left e
  · exact .of_right e
  · unfold IntMulOk
    have z : Builtin.Int.intTooBig ((Builtin.Int.intBits i : Int) + (Builtin.Int.intBits j : Int)) = false := by
      unfold Builtin.Int.intTooBig
      have eb : bitsLine = 134217728 := by decide
      exact decide_eq_false (by rw [eb]; omega)
    rw [z]
    simp
end
end Rf
/-! Operators, comparisons, items, cuts: by values. -/
namespace Rf
open PySem PySem.Spec PyProof.Rows L2
section
variable {X : Cx} {pins : List (Addr × Obj)} {s : Shared} {σ : L2.St} {H : Hp} {Q : VK}
/-- a tuple just laid is known to its object -/
theorem tup_new {vs : List V} {its : List Value} {t' : Nat} (I : L2.Inv X pins σ H s) (r : Vals vs its) (hz : vs.length ≤ sizeLine) (q : ∀ (a : Addr) (o : Obj), H a = none → o.dict = none → Q (.ref a) (upd H a (.frz o (.tup vs)))) :
    EP X pins σ Q (.ref s.heap.objs.size) { s with heap := s.heap.push { cls := .type "tuple", data := .seq its.toArray }, toks := t' } := by
  have hf : H s.heap.objs.size = none := I.hok.fresh (Nat.le_refl _)
  have hg : (s.heap.push { cls := .type "tuple", data := .seq its.toArray }).get? s.heap.objs.size = some ({ cls := .type "tuple", data := .seq its.toArray } : Obj) := Heap.get?_push_size _ rfl
  exact ⟨.ref s.heap.objs.size, _, I.laid (t' := t') (o := .frz { cls := .type "tuple", data := .seq its.toArray } (.tup vs)) (fun b u e => Heap.get?_push_of_some _ e) (Nat.le_refl _) ⟨hg, hz, its, r, _, hg, rfl, _, rfl⟩, rfl, q _ _ hf rfl⟩
/-- t + u -/
theorem catT_ok {a b : Addr} {xs ys : List V} (I : L2.Inv X pins σ H s) (ha : SqT X.K H a xs) (hb : SqT X.K H b ys) (hz : (xs ++ ys).length ≤ sizeLine) (q0 : xs = [] → Q (.ref b) H) (q1 : ys = [] → Q (.ref a) H)
    (q2 : ∀ (a : Addr) (o : Obj), H a = none → o.dict = none → Q (.ref a) (upd H a (.frz o (.tup (xs ++ ys))))) : wpAny (model X.prog X.w) X.A (binaryOp .Add (.ref a) (.ref b)) (EP X pins σ Q) X.xe s := by
  obtain ⟨i1, r1, p1, _⟩ := I.tuple ha
  obtain ⟨i2, r2, p2, _⟩ := I.tuple hb
  by_cases e : i1 = []
  · subst e
    have ex : xs = [] := r1.nil_iff.mp rfl
    exact cat_tup0 p1 p2 ⟨.ref b, H, I, rfl, q0 ex⟩
  · have l : i1.length + i2.length ≤ sizeLine := by
      rw [List.length_append] at hz
      rw [← r1.length, ← r2.length]
      exact hz
    exact HT.cat_tup p1 p2 e (fun z => ⟨.ref a, H, I, rfl, q1 (r2.nil_iff.mp z)⟩) (fun _ => tup_new (t' := s.toks) I (r1.append r2) hz q2) l
theorem repL_ok {a : Addr} {k : Int} {t : Tok} {xs : List V} (I : L2.Inv X pins σ H s) (ha : Rd H a (.lst xs)) (h1 : 0 ≤ k) (h2 : k ≤ 1000) (hl : xs.length ≤ 1000) (q : ∀ p, H p = none → Q (.ref p) (upd H p (.lst (List.replicate k.toNat xs).flatten))) :
    wpAny (model X.prog X.w) X.A (binaryOp .Mult (.ref a) (.int k t)) (EP X pins σ Q) X.xe s := by
  obtain ⟨_, its, n, r, len, e⟩ := Inv.rdL I ha
  have le : xs.length * k.toNat ≤ sizeLine := by
    have z : xs.length * k.toNat ≤ 1000 * 1000 := Nat.mul_le_mul hl (by omega)
    have : (sizeLine : Nat) = 16777216 := sizeLine_eq
    omega
  have le2 : its.toArray.size * k.toNat ≤ sizeLine := by
    rw [List.size_toArray, ← len]; exact le
  have c1 : ¬ its.toArray.size * k.toNat > (2 ^ 63 - 1) / 8 := by
    have : (sizeLine : Nat) ≤ (2 ^ 63 - 1) / 8 := by decide
    omega
  have c2 : ¬ (!Builtin.List.listFitsIndex k) = true := by
    rw [fitsIndex_both (by omega) (by omega)]
    exact Bool.false_ne_true
  have c3 : ¬ Builtin.List.listTooLong (its.toArray.size * k.toNat) = true := by
    rw [notLongL le2]
    exact Bool.false_ne_true
  have made : List.foldl (fun y z => y ++ z) #[] (List.replicate (if its.toArray.isEmpty = true then 0 else k.toNat) its.toArray) = (List.replicate k.toNat its).flatten.toArray := by
    have f0 : ∀ j : Nat, List.foldl (fun y z => y ++ z) #[] (List.replicate j its.toArray) = (List.replicate j its).flatten.toArray := fun j => by
      have g := foldl_rep its j []
      rwa [List.nil_append] at g
    rw [f0]
    cases its with
    | nil => simp
    | cons _ _ => rw [if_neg (by simp)]
  refine wpAny_binaryOp_repeat_ref (T := "list") (U := "int") (by decide) ⟨_, e, rfl⟩ (fun s' => typeIs_int s' k t) noFill_list_mul F.fills_int_mul F.slot_int_rmul repeat_list F.slot_int_index.lookup ?_
  refine call_meets F.slot_int_rmul (typeIs_int s k t) F.entry_int_rmul (F.args_int_rmul_2 _ _) (int___rmul___int_list k t a its.toArray n) ⟨e, rfl, ⟨_, e, rfl⟩, ?_⟩
  refine call_meets F.slot_list_mul ⟨_, e, rfl⟩ F.entry_list_mul (F.args_list_mul_2 _ _) (AutoListH.list___mul___list_int_3 a its.toArray n k t c2 c1 c3) ⟨e, ?_⟩
  rw [made]
  exact ⟨.ref _, _, I.lnew (t' := s.toks) (r.rep k.toNat) (by rw [PyProof.Rows.lm_len_rep_flat, Nat.mul_comm]; exact le), rfl, q _ I.fresh⟩
/-- t * k -/
theorem repT_ok {a : Addr} {k : Int} {t : Tok} {xs : List V} (I : L2.Inv X pins σ H s) (ha : SqT X.K H a xs) (ne : xs ≠ []) (h1 : 2 ≤ k) (h2 : k ≤ 1000) (hl : xs.length ≤ 1000) (hz : (List.replicate k.toNat xs).flatten.length ≤ sizeLine)
    (q : ∀ (a : Addr) (o : Obj), H a = none → o.dict = none → Q (.ref a) (upd H a (.frz o (.tup (List.replicate k.toNat xs).flatten)))) : wpAny (model X.prog X.w) X.A (binaryOp .Mult (.ref a) (.int k t)) (EP X pins σ Q) X.xe s := by
  obtain ⟨its, r, ⟨⟨cl, di, da, sl⟩, ho, hc, n, hd⟩, _⟩ := I.tuple ha
  have ec : cl = .type "tuple" := hc
  have ed : da = .seq its.toArray n := hd
  subst ec ed
  have len : its.length = xs.length := r.length.symm
  have szA : its.toArray.size = xs.length := by rw [List.size_toArray, len]
  have pos : 0 < xs.length := List.length_pos_iff.mpr ne
  have emp : its.toArray.isEmpty = false := by
    cases its with
    | nil => simp at len; omega
    | cons _ _ => rfl
  have mx : ((its.toArray.size : Nat) : Int) * k ≤ 1000000 := by
    rw [szA]
    have := Int.mul_le_mul_of_nonneg_right (a := ((xs.length : Nat) : Int)) (b := 1000) (c := k) (by omega) (by omega)
    omega
  have d0 : (decide (k < -(2 ^ 63)) || decide (k ≥ 2 ^ 63)) = false := by simp; omega
  have d1 : (its.toArray.isEmpty || k == 1) = false := by rw [emp]; simp; omega
  have d2 : (decide (k ≤ 0) || its.toArray.isEmpty) = false := by rw [emp]; simp; omega
  have d4 : Builtin.Tuple.tupleTooMany (((its.toArray.size : Nat) : Int) * k) = false := by
    unfold Builtin.Tuple.tupleTooMany
    rw [sizeLine_eq]
    exact decide_eq_false (by omega)
  have fl : (List.replicate k.toNat its).flatten.length ≤ sizeLine := by
    rw [(r.rep k.toNat).length] at hz
    exact hz
  refine wpAny_binaryOp_repeat_ref (T := "tuple") (U := "int") (by decide) ⟨_, ho, rfl⟩ (fun s' => typeIs_int s' k t) noFill_tuple_mul F.fills_int_mul F.slot_int_rmul repeat_tuple F.slot_int_index.lookup ?_
  refine call_meets F.slot_int_rmul (typeIs_int s k t) F.entry_int_rmul (F.args_int_rmul_2 _ _) (int_rmul_tuple k t a its.toArray n di sl) ⟨ho, rfl, ⟨_, ho, rfl⟩, ?_⟩
  refine call_meets F.slot_tuple_mul ⟨_, ho, rfl⟩ F.entry_tuple_mul (F.args_tuple_mul_2 _ _) (tuple_mulW a its.toArray n di sl k t d0 d1 d2 (by omega) d4 (by rw [size_rep, List.size_toArray]; exact fl)) ⟨ho, ?_⟩
  rw [size_rep]
  exact tup_new (t' := s.toks) I (r.rep k.toNat) hz q
end
theorem op_mulB {X : Cx} : OpR X (binaryOp .Mult) (rI (fun i j => mulB i j = true) fun i j => .int (i * j)) := opI fun _ _ _ _ _ _ _ hc q => mul_int q (mul_fits hc)
section
variable {X : Cx}
theorem ibin_ok {o : Operator} {i j k : Int} {t u : Tok} {pins : List (Addr × Obj)} {s : Shared} {σ : L2.St} {H : Hp} {Q : VK} (I : L2.Inv X pins σ H s) (e : ibin o i j = some k) (q : Q (.int k) H) :
    wpAny (model X.prog X.w) X.A (binaryOp o (.int i t) (.int j u)) (EP X pins σ Q) X.xe s := by
  cases o <;> simp only [ibin, reduceCtorEq] at e
  case Add =>
    cases e
    exact op_add pins s σ H (V.int i) (V.int j) _ _ Q I ⟨t, rfl⟩ ⟨u, rfl⟩ ⟨i, j, rfl, rfl, q⟩
  case Sub =>
    cases e
    exact op_sub pins s σ H (V.int i) (V.int j) _ _ Q I ⟨t, rfl⟩ ⟨u, rfl⟩ ⟨i, j, rfl, rfl, q⟩
  case Mult =>
    split at e
    · rename_i c
      cases e
      exact op_mulB pins s σ H (V.int i) (V.int j) _ _ Q I ⟨t, rfl⟩ ⟨u, rfl⟩ ⟨i, j, rfl, rfl, c, q⟩
    · cases e
  case FloorDiv =>
    split at e
    · rename_i c
      cases e
      have c' : 0 < j ∧ j.natAbs.log2 < 9000 := by simpa [divB] using c
      exact op_fdivW pins s σ H (V.int i) (V.int j) _ _ Q I ⟨t, rfl⟩ ⟨u, rfl⟩ ⟨i, j, rfl, rfl, c', q⟩
    · cases e
  case Mod =>
    split at e
    · rename_i c
      cases e
      exact op_mod pins s σ H (V.int i) (V.int j) _ _ Q I ⟨t, rfl⟩ ⟨u, rfl⟩ ⟨i, j, rfl, rfl, c, q⟩
    · cases e
  case Pow =>
    split at e
    · rename_i c
      cases e
      have c' : 0 ≤ j ∧ j ≤ 1000000 ∧ i.natAbs < 2 ^ 64 := by simpa only [powB, Bool.and_eq_true, decide_eq_true_eq] using c
      exact op_pow pins s σ H (V.int i) (V.int j) _ _ Q I ⟨t, rfl⟩ ⟨u, rfl⟩ ⟨i, j, rfl, rfl, c', q⟩
    · cases e
theorem RWs.app {P : Program} {w : World} {K : PySem.W.Frag} {m : List Addr} {F : Hp} : ∀ {xs ys : List V} {us vs : List W}, RWs P w K m F xs us → RWs P w K m F ys vs → RWs P w K m F (xs ++ ys) (us ++ vs)
  | _, _, _, _, .nil, q => q
  | _, _, _, _, .cons a b, q => .cons a (RWs.app b q)
theorem RWs.rep {P : Program} {w : World} {K : PySem.W.Frag} {m : List Addr} {F : Hp} {xs : List V} {us : List W} (r : RWs P w K m F xs us) : ∀ k : Nat, RWs P w K m F (List.replicate k xs).flatten (List.replicate k us).flatten
  | 0 => .nil
  | k + 1 => by
    rw [List.replicate_succ, List.replicate_succ, List.flatten_cons, List.flatten_cons]
    exact r.app (r.rep k)
theorem seq_bin {E : XK} {o : Operator} {mf : Bool} {F : Hp} {m : List Addr} {h : Hs} {a b : W} {x y : V} {v u : Value} {pins : List (Addr × Obj)} {s : Shared} {σ : L2.St} {H : Hp} {Q : VK} (I : L2.Inv X pins σ H s) (rx : RelV x v) (ry : RelV y u) (sep : Sep X.prog X.w X.K m F h H)
    (ra : RW X.prog X.w X.K m F x a) (rb : RW X.prog X.w X.K m F y b) (p : Post X.prog X.w X.K (RW X.prog X.w X.K) E F m H (seqOp o mf a b h) Q) :
    wpAny (model X.prog X.w) X.A (binaryOp o v u) (EP X pins σ Q) X.xe s := by
  unfold seqOp at p
  split at p
  · rename_i t xs ea
    split at p
    · rename_i t2 ys eb
      split at p
      · rename_i et
        subst et
        obtain ⟨l, vs, rfl, rv, k1⟩ := sq_at sep ra ea
        obtain ⟨l2, vs2, rfl, rv2, k2⟩ := sq_at sep rb eb
        cases rx
        cases ry
        have rr := rv.app rv2
        rcases k1 with ⟨rfl, k1⟩ | ⟨rfl, k1⟩
        · rcases k2 with ⟨_, k2⟩ | ⟨z, _⟩
          · rw [if_pos rfl] at p
            obtain ⟨hz, q, qs⟩ := p.mkt sep rr
            exact catT_ok I (sqT_mono sep.sub k1.sq) (sqT_mono sep.sub k2.sq) hz (fun e => qs l2 (by rw [e]; exact k2)) (fun e => qs l (by rw [e, List.append_nil]; exact k1)) q
          · cases z
        · rcases k2 with ⟨z, _⟩ | ⟨_, k2⟩
          · cases z
          · rw [if_neg Bool.false_ne_true] at p
            obtain ⟨hz, q⟩ := p.mkl sep rr
            exact op_catS I k1 k2 (by rw [List.length_append] at hz; exact hz) q
      · exact p.elim
    · exact p.elim
  · rename_i t xs ea
    split at p
    · rename_i k
      split at p
      · rename_i c
        obtain ⟨c1, c2, c3, c4⟩ := c
        obtain ⟨l, vs, rfl, rv, k1⟩ := sq_at sep ra ea
        cases rb with
        | d rb =>
          cases rb
          obtain ⟨tk, rfl⟩ := ry
          cases rx
          have rr := rv.rep k.toNat
          rcases k1 with ⟨rfl, k1⟩ | ⟨rfl, k1⟩
          · rw [if_pos rfl] at p
            obtain ⟨hz, q, _⟩ := p.mkt sep rr
            obtain ⟨c5, c6⟩ := c4 rfl
            exact repT_ok I (sqT_mono sep.sub k1.sq) (fun e => c5 (by
              subst e
              cases rv
              rfl)) c6 c2 (by rw [rv.length]; exact c3) hz q
          · rw [if_neg Bool.false_ne_true] at p
            obtain ⟨hz, q⟩ := p.mkl sep rr
            exact repL_ok I k1 c1 c2 (by rw [rv.length]; exact c3) q
      · exact p.elim
    · exact p.elim
  · exact p.elim
theorem op_binW {E : XK} {o : Operator} {mf : Bool} : OpR X (binaryOp o) (rB X.prog X.w X.K E (binW o mf)) := by
  intro pins s σ H x y v u Q I rx ry hyp
  obtain ⟨F, m, h, a, b, sep, ra, rb, p⟩ := hyp
  unfold binW at p
  split at p
  · cases ra with
    | d ra =>
      cases rb with
      | d rb =>
        cases ra
        cases rb
        obtain ⟨t, rfl⟩ := rx
        obtain ⟨t2, rfl⟩ := ry
        split at p
        · rename_i k e
          exact ibin_ok I e (p.rok sep (.int k))
        · exact p.elim
  · cases ra with
    | d ra =>
      cases rb with
      | d rb =>
        cases ra
        cases rb
        split at p
        · split at p
          · rename_i c
            exact op_add_str pins s σ H _ _ v u Q I rx ry ⟨_, _, rfl, rfl, lim_le c, p.rok sep (.str _)⟩
          · exact p.elim
        · exact p.elim
  · exact seq_bin I rx ry sep ra rb p
end
end Rf
/-! Keys and dicts, comparisons, items, cuts: by values. -/
namespace Rf
open PySem PySem.Spec PyProof.Rows L2
/-! ### keys -/
mutual
theorem eqv_nk : ∀ (x y : D) (κ κ' : NestedKey), nk x = some κ → nk y = some κ' → PyData.eqv x y = NestedKey.beq κ κ'
  | .none, y, κ, κ', e, e' => by
    cases y <;> simp only [nk, Option.some.injEq, reduceCtorEq, Option.map_eq_some_iff] at e e'
    all_goals first
      | (subst e e'; simp [PyData.eqv, NestedKey.beq])
      | (obtain ⟨ks, _, rfl⟩ := e'; subst e; simp [PyData.eqv, NestedKey.beq])
  | .bool b, y, κ, κ', e, e' => by
    cases y <;> simp only [nk, Option.some.injEq, reduceCtorEq, Option.map_eq_some_iff] at e e'
    all_goals first
      | (obtain ⟨ks, _, rfl⟩ := e'; subst e; simp [PyData.eqv, NestedKey.beq]; done)
      | (subst e e'; simp [PyData.eqv, NestedKey.beq]; done)
      | (rename_i c; subst e e'; cases b <;> cases c <;> simp [PyData.eqv, NestedKey.beq]; done)
      | (subst e e'; rw [PyData.eqv, NestedKey.beq, Bool.eq_iff_iff]; simp)
  | .int i, y, κ, κ', e, e' => by
    cases y <;> simp only [nk, Option.some.injEq, reduceCtorEq, Option.map_eq_some_iff] at e e'
    all_goals first
      | (subst e e'; simp [PyData.eqv, NestedKey.beq]; done)
      | (subst e e'; simp only [PyData.eqv, NestedKey.beq]; rw [Bool.eq_iff_iff]; simp)
      | (obtain ⟨ks, _, rfl⟩ := e'; subst e; simp [PyData.eqv, NestedKey.beq])
  | .str s, y, κ, κ', e, e' => by
    cases y <;> simp only [nk, Option.some.injEq, reduceCtorEq, Option.map_eq_some_iff] at e e'
    all_goals first
      | (obtain ⟨ks, _, rfl⟩ := e'; subst e; simp [PyData.eqv, NestedKey.beq]; done)
      | (subst e e'; simp [PyData.eqv, NestedKey.beq]; done)
      | (subst e e'; rw [PyData.eqv, NestedKey.beq, Bool.eq_iff_iff]; simp)
  | .tuple xs, y, κ, κ', e, e' => by
    simp only [nk, Option.map_eq_some_iff] at e
    obtain ⟨ks, e1, rfl⟩ := e
    cases y <;> simp only [nk, Option.some.injEq, reduceCtorEq, Option.map_eq_some_iff] at e'
    all_goals first
      | (obtain ⟨ks', e2, rfl⟩ := e'; rw [PyData.eqv, NestedKey.beq]; exact eqv_nks xs _ ks ks' e1 e2)
      | (subst e'; simp [PyData.eqv, NestedKey.beq])
  | .list xs, y, κ, κ', e, e' => by simp [nk] at e
  | .dict xs, y, κ, κ', e, e' => by simp [nk] at e
theorem eqv_nks : ∀ (xs ys : List D) (ks ks' : List NestedKey), nks xs = some ks → nks ys = some ks' → PyData.eqvAll xs ys = NestedKey.beqAll ks ks'
  | [], ys, ks, ks', e, e' => by
    simp only [nks, Option.some.injEq] at e
    subst e
    cases ys with
    | nil =>
      simp only [nks, Option.some.injEq] at e'
      subst e'
      simp [PyData.eqvAll, NestedKey.beqAll]
    | cons y ys =>
      simp only [nks] at e'
      split at e'
      · cases e'
        simp [PyData.eqvAll, NestedKey.beqAll]
      · cases e'
  | x :: xs, ys, ks, ks', e, e' => by
    simp only [nks] at e
    split at e
    · rename_i k kr e1 e2
      cases e
      cases ys with
      | nil =>
        simp only [nks, Option.some.injEq] at e'
        subst e'
        simp [PyData.eqvAll, NestedKey.beqAll]
      | cons y ys =>
        simp only [nks] at e'
        split at e'
        · rename_i k' kr' e3 e4
          cases e'
          rw [PyData.eqvAll, NestedKey.beqAll, eqv_nk x y k k' e1 e3, eqv_nks xs ys kr kr' e2 e4]
        · cases e'
    · cases e
end
theorem keyT_nk {k : D} (e : keyT k = true) : ∃ κ, nk k = some κ ∧ κ.depth ≤ 8 ∧ ∃ xs, k = .tuple xs := by
  unfold keyT at e
  split at e
  · split at e
    · rename_i κ h
      exact ⟨κ, h, of_decide_eq_true e, _, rfl⟩
    · cases e
  · cases e
section
variable {X : Cx} {pins : List (Addr × Obj)} {s : Shared} {σ : L2.St} {H F : Hp}
mutual
theorem nis (I : L2.Inv X pins σ H s) (hs : ∀ a o, F a = some o → H a = some o) : ∀ (d : D) (v : V) (κ : NestedKey) (u : Value), RD X.prog X.w X.K F v d → nk d = some κ → RelV v u → NestedIs s.heap κ u
  | .none, v, κ, u, r, e, q => by
    cases r; cases q
    simp only [nk, Option.some.injEq] at e
    subst e
    exact .none
  | .bool b, v, κ, u, r, e, q => by
    cases r; cases q
    simp only [nk, Option.some.injEq] at e
    subst e
    exact .bool rfl
  | .int i, v, κ, u, r, e, q => by
    cases r
    obtain ⟨t, rfl⟩ := q
    simp only [nk, Option.some.injEq] at e
    subst e
    exact .int i t
  | .str x, v, κ, u, r, e, q => by
    cases r
    obtain ⟨t, rfl⟩ := q
    simp only [nk, Option.some.injEq] at e
    subst e
    exact .text x t
  | .tuple xs, v, κ, u, r, e, q => by
    simp only [nk, Option.map_eq_some_iff] at e
    obtain ⟨ks, e1, rfl⟩ := e
    cases r with
    | @tup a vs _ t rs =>
      cases q
      obtain ⟨o, its, n, g, c, _, dt, rv, _⟩ := (t.mono hs).obj I
      exact .tup g c dt (nisAll I hs xs vs ks its rs e1 rv)
  | .list _, _, _, _, _, e, _ => by simp [nk] at e
  | .dict _, _, _, _, _, e, _ => by simp [nk] at e
theorem nisAll (I : L2.Inv X pins σ H s) (hs : ∀ a o, F a = some o → H a = some o) : ∀ (ds : List D) (vs : List V) (ks : List NestedKey) (us : List Value), RDs X.prog X.w X.K F vs ds → nks ds = some ks → Vals vs us → NestedAll s.heap ks us
  | [], vs, ks, us, r, e, q => by
    cases r; cases q
    simp only [nks, Option.some.injEq] at e
    subst e
    exact .nil
  | d :: ds, vs, ks, us, r, e, q => by
    simp only [nks] at e
    split at e
    · rename_i k kr e1 e2
      cases e
      cases r with
      | cons r1 r2 =>
        cases q with
        | cons q1 q2 => exact .cons (nis I hs d _ k _ r1 e1 q1) (nisAll I hs ds _ kr _ r2 e2 q2)
    · cases e
end
theorem key_is (I : L2.Inv X pins σ H s) (hs : ∀ a o, F a = some o → H a = some o) {b : Addr} {k : D} {κ : NestedKey} (r : RD X.prog X.w X.K F (.ref b) k) (t : keyT k = true) (e : nk k = some κ) : (nestedKind X.prog X.w).is s.heap κ b := by
  obtain ⟨κ', e', dp, _⟩ := keyT_nk t
  rw [e] at e'
  cases e'
  exact ⟨nis I hs k _ κ (.ref b) r e rfl, dp⟩
end
section
variable {P : Program} {w : World} {K : PySem.W.Frag} {F H : Hp} {m : List Addr} {h : Hs}
theorem rk_w : ∀ {xs : List (NestedKey × Addr × Value)} {kvs : List (D × D)}, RK P w K F xs kvs → RKW P w K m F xs (kvs.map fun kv => (kv.1, W.d kv.2))
  | _, _, .nil => .nil
  | _, _, .cons a k b c d e => .cons a k b c (.d d) (rk_w e)
/-- a dict, where it lies -/
theorem dq_at {x : W} {kvs : List (D × W)} {v : V} (s : Sep P w K m F h H) (r : RW P w K m F v x) (e : dq x h = some kvs) :
    ∃ a xs ep, v = .ref a ∧ H a = some (tdic P w a xs ep) ∧ (a == sysModules) = false ∧ (xs.map (·.1)).Nodup ∧ RKW P w K m F xs kvs := by
  cases r with
  | d r =>
    cases r with
    | dct q ns nd r =>
      simp only [dq, Option.some.injEq] at e
      subst e
      exact ⟨_, _, _, rfl, s.sub _ _ q, ns, nd, rk_w r⟩
    | non => cases e
    | bl b => cases e
    | int i => cases e
    | str z => cases e
    | lst _ _ => cases e
    | tup _ _ => cases e
  | @r n a em =>
    obtain ⟨o, eo, ob⟩ := s.get em
    simp only [dq, eo] at e
    cases o with
    | dct lk ks =>
      simp only [Option.some.injEq] at e
      subst e
      obtain ⟨_, ns, xs, ep, eH, _, nd, rr⟩ := ob
      exact ⟨a, xs, ep, rfl, eH, ns, nd, rr⟩
    | lst _ => cases e
    | ins _ _ => cases e
theorem RKW.len {xs : List (NestedKey × Addr × Value)} {kvs : List (D × W)} (r : RKW P w K m F xs kvs) : xs.length = kvs.length := by
  induction r with
  | nil => rfl
  | cons _ _ _ _ _ _ ih => simp [ih]
theorem look_at {xs : List (NestedKey × Addr × Value)} {kvs : List (D × W)} (r : RKW P w K m F xs kvs) {k : D} {κ : NestedKey} (e : nk k = some κ) :
    (look kvs k = none ∧ atKey xs κ = none) ∨ ∃ x b u v, look kvs k = some x ∧ atKey xs κ = some (b, u) ∧ RelV v u ∧ RW P w K m F v x := by
  induction r with
  | nil => exact .inl ⟨rfl, rfl⟩
  | @cons κ' b u v k' x r r' a kt b' c d e' ih =>
    have q := eqv_nk k' k κ' κ b' e
    by_cases hk : κ' = κ
    · have q1 : PyData.eqv k' k = true := by rw [q, hk]; exact NestedKey.beq_self κ
      refine .inr ⟨x, b, u, v, ?_, ?_, c, d⟩
      · unfold look
        rw [List.find?_cons_of_pos (p := fun kv : D × W => PyData.eqv kv.1 k) q1]
        rfl
      · unfold atKey
        rw [List.find?_cons_of_pos (p := fun x : NestedKey × Addr × Value => decide (x.1 = κ)) (decide_eq_true hk)]
        rfl
    · have q1 : ¬ PyData.eqv k' k = true := by
        rw [q, ← NestedKey.decide_eq]
        simp [hk]
      have l1 : look ((k', x) :: r') k = look r' k := by
        unfold look
        rw [List.find?_cons_of_neg (p := fun kv : D × W => PyData.eqv kv.1 k) q1]
      have l2 : atKey ((κ', b, u) :: r) κ = atKey r κ := by
        unfold atKey
        rw [List.find?_cons_of_neg (p := fun x : NestedKey × Addr × Value => decide (x.1 = κ)) (by simp [hk])]
      rw [l1, l2]
      exact ih
end
section
variable {X : Cx} {pins : List (Addr × Obj)} {s : Shared} {σ : L2.St} {H F : Hp} {m : List Addr} {h : Hs}
theorem keys_are (I : L2.Inv X pins σ H s) (hs : ∀ a o, F a = some o → H a = some o) {xs : List (NestedKey × Addr × Value)} {kvs : List (D × W)} (r : RKW X.prog X.w X.K m F xs kvs) : ∀ x ∈ xs, (nestedKind X.prog X.w).is s.heap x.1 x.2.1 := by
  induction r with
  | nil => intro x hx; cases hx
  | cons a kt b' c d e' ih =>
    intro x hx
    rcases List.mem_cons.mp hx with rfl | hx
    · exact key_is I hs a kt b'
    · exact ih x hx
/-- the library's word of a dict -/
theorem dic_at (I : L2.Inv X pins σ H s) (hs : ∀ a o, F a = some o → H a = some o) {a : Addr} {xs : List (NestedKey × Addr × Value)} {ep : Nat} {kvs : List (D × W)} (e : H a = some (tdic X.prog X.w a xs ep)) (nd : (xs.map (·.1)).Nodup) (r : RKW X.prog X.w X.K m F xs kvs) :
    s.heap.DictOfH (nestedKind X.prog X.w) a xs := by
  obtain ⟨⟨o, es, g, ex, dt, el⟩, _, _⟩ := I.hok a _ e
  exact ⟨o, es, ep, g, ex, dt, el, keys_are I hs r, nd⟩
/-- a write into a dict, in both tellings -/
theorem put_rel {P : Program} {w : World} {K : PySem.W.Frag} {xs : List (NestedKey × Addr × Value)} {kvs : List (D × W)} (r : RKW P w K m F xs kvs) (nd : (xs.map (·.1)).Nodup) {k : D} {κ : NestedKey} {b : Addr} {u : Value} {v : V} {z : W}
    (rb : RD P w K F (.ref b) k) (kt : keyT k = true) (e : nk k = some κ) (ru : RelV v u) (rz : RW P w K m F v z) : RKW P w K m F (storedH xs κ b u) (put kvs k z) := by
  induction r with
  | nil =>
    rw [storedH_new (by rfl)]
    exact .cons rb kt e ru rz .nil
  | @cons κ' b' u' v' k' z' r r' ra kt' e' ru' rz' rest ih =>
    have q := eqv_nk k' k κ' κ e' e
    have nd' : κ' ∉ r.map (·.1) ∧ (r.map (·.1)).Nodup := List.nodup_cons.mp nd
    by_cases hk : κ' = κ
    · subst hk
      have q1 : PyData.eqv k' k = true := by rw [q]; exact NestedKey.beq_self κ'
      have l2 : atKey ((κ', b', u') :: r) κ' = some (b', u') := by
        unfold atKey
        rw [List.find?_cons_of_pos (p := fun x : NestedKey × Addr × Value => decide (x.1 = κ')) (decide_eq_true rfl)]
        rfl
      rw [storedH_old l2]
      have same : r.map (putAt κ' u) = r := by
        have z : r.map (putAt κ' u) = r.map id := List.map_congr_left fun x hx => by
          have hne : ¬ x.1 = κ' := fun y => nd'.1 (by rw [← y]; exact List.mem_map_of_mem hx)
          exact if_neg hne
        rw [z, List.map_id]
      rw [List.map_cons, same]
      have p1 : putAt κ' u (κ', b', u') = (κ', b', u) := if_pos rfl
      have p2 : put ((k', z') :: r') k z = (k', z) :: r' := if_pos q1
      rw [p1, p2]
      exact .cons ra kt' e' ru rz rest
    · have q1 : ¬ PyData.eqv k' k = true := by
        rw [q, ← NestedKey.decide_eq]
        simp [hk]
      have p2 : put ((k', z') :: r') k z = (k', z') :: put r' k z := if_neg q1
      have l2 : atKey ((κ', b', u') :: r) κ = atKey r κ := by
        unfold atKey
        rw [List.find?_cons_of_neg (p := fun x : NestedKey × Addr × Value => decide (x.1 = κ)) (by simp [hk])]
      have p1 : storedH ((κ', b', u') :: r) κ b u = (κ', b', u') :: storedH r κ b u := by
        unfold storedH
        rw [l2]
        split
        · rw [List.map_cons]
          have : putAt κ u (κ', b', u') = (κ', b', u') := if_neg hk
          rw [this]
        · rfl
      rw [p1, p2]
      exact .cons ra kt' e' ru' rz' (ih nd'.2)
end
end Rf
/-! Comparisons, items, cuts: by values. -/
namespace Rf
open PySem PySem.Spec PyProof.Rows L2
section
variable {X : Cx} {pins : List (Addr × Obj)} {s : Shared} {σ : L2.St} {H F : Hp} {m : List Addr} {h : Hs} {Q : VK}
theorem none_iff {P : Program} {w : World} {K : PySem.W.Frag} {x : V} {a : W} (r : RW P w K m F x a) : decide (x = .non) = isNone a := by
  cases r with
  | d r => cases r <;> simp [isNone]
  | r e => simp [isNone]
theorem lt_ok {x y : D} {c : Bool} {v u : V} {a b : Value} (I : L2.Inv X pins σ H s) (hu : X.A.units + 100 < cLine) (hs : ∀ a o, F a = some o → H a = some o) (ra : RD X.prog X.w X.K F v x) (rb : RD X.prog X.w X.K F u y) (va : RelV v a) (vb : RelV u b) (e : ltD x y = some c) (q : Q (.bl c) H) :
    wpAny (model X.prog X.w) X.A (compareOp .Lt a b) (EP X pins σ Q) X.xe s := by
  unfold ltD at e
  split at e
  · cases ra
    cases rb
    cases e
    exact op_lt pins s σ H _ _ a b Q I va vb ⟨_, _, rfl, rfl, q⟩
  · rename_i xs ys
    split at e
    · rename_i o
      cases e
      simp only [ordB, Bool.and_eq_true] at o
      obtain ⟨o1, o2, o3⟩ := o
      obtain ⟨as, r1⟩ := Dp.reads I _ _ _ (ra.dp hs (SeqAt.canLay_of_shaped o2)) va
      obtain ⟨bs, r2⟩ := Dp.reads I _ _ _ (rb.dp hs (SeqAt.canLay_of_shaped o3)) vb
      have d1 := SeqAt.depth_of_shaped o2
      have room : X.A.units + min (PyData.tuple xs).depth (PyData.tuple ys).depth < cLine := by
        have := Nat.min_le_left (PyData.tuple xs).depth (PyData.tuple ys).depth
        omega
      have z := PySem.W.rcLt_alike _ _ X.A s a b as bs r1 r2 o1 (fun z => nomatch z) room
      exact z X.prog X.w X.xe _ ⟨.bl _, H, I, rfl, q⟩
    · cases e
  · cases e
theorem shp_list {xs : List D} (e : shp (.list xs) = true) : PyData.canLayAll0 xs = true ∧ PyData.depthAll xs ≤ 63 := by
  have h1 := SeqAt.canLay_of_shaped e
  have h2 := SeqAt.depth_of_shaped e
  refine ⟨by simpa [PyData.canLay0] using h1, ?_⟩
  simp only [PyData.depth] at h2
  omega
theorem shp_tup {xs : List D} (e : shp (.tuple xs) = true) : PyData.canLayAll0 xs = true ∧ PyData.depthAll xs ≤ 63 := by
  have h1 := SeqAt.canLay_of_shaped e
  have h2 := SeqAt.depth_of_shaped e
  refine ⟨by simpa [PyData.canLay0] using h1, ?_⟩
  simp only [PyData.depth] at h2
  omega
theorem mem_ok {neg : Bool} {a b : W} {c : Bool} {x y : V} {v u : Value} (I : L2.Inv X pins σ H s) (hu : X.A.units + 100 < cLine) (sep : Sep X.prog X.w X.K m F h H) (ra : RW X.prog X.w X.K m F x a) (rb : RW X.prog X.w X.K m F y b) (rx : RelV x v) (ry : RelV y u)
    (e : memW a b h = some c) (q : Q (.bl (if neg = true then !c else c)) H) : wpAny (model X.prog X.w) X.A (compareOp (if neg = true then .NotIn else .In) v u) (EP X pins σ Q) X.xe s := by
  unfold memW at e
  split at e
  · rename_i kvs ed
    split at e
    · rename_i k
      split at e
      · rename_i kt
        cases e
        obtain ⟨κ, ek, _, ks, rfl⟩ := keyT_nk kt
        obtain ⟨d, xs, ep, rfl, eH, ns, nd, rr⟩ := dq_at sep rb ed
        cases ry
        cases ra with
        | d ra =>
          cases ra with
          | @tup p vs _ t rs =>
            cases rx
            have hm := dic_at I sep.sub eH nd rr
            have hk := key_is I sep.sub (.tup t rs) kt ek
            have ec : (atKey xs κ).isSome = (look kvs (.tuple ks)).isSome := by
              rcases look_at rr ek with ⟨z1, z2⟩ | ⟨z, b, u, v, z1, z2, _, _⟩ <;> rw [z1, z2] <;> rfl
            have ru : (nestedKind X.prog X.w).room X.A.in1 := by
              show X.A.units + 1 + 8 < cLine
              omega
            cases neg with
            | false =>
              refine wpAny_in_heap ru hk ns hm ?_
              rw [ec]
              exact ⟨.bl _, H, I.tok _, rfl, q⟩
            | true =>
              refine notIn_keyed ru hk ns ⟨xs, hm, rfl⟩ ?_
              rw [valueAt_pairsH, Option.isSome_map, ec]
              exact ⟨.bl _, H, I.tok _, rfl, q⟩
      · cases e
    · cases e
  · split at e
    · cases e
    · rename_i z1 e1
      split at e
      · rename_i z2 e2
        split at e
        · rename_i z3
          split at e
          · rename_i l
            split at e
            · rename_i ch hc
              cases e
              have f1 : x = .str ⟨#[ch]⟩ := by
                cases ra with
                | d ra =>
                  simp only [vw, Option.some.injEq] at e1
                  subst e1
                  cases ra
                  have hz : z3 = ⟨#[ch]⟩ := by
                    cases z3
                    simp only at hc
                    congr 1
                    exact Array.toList_inj.mp hc
                  rw [hz]
                | @r n a em =>
                  obtain ⟨o, eo, ob⟩ := sep.get em
                  simp only [vw, eo] at e1
                  cases o <;> simp at e1
              have f2 : y = .str z2 := by
                cases rb with
                | d rb =>
                  simp only [vw, Option.some.injEq] at e2
                  subst e2
                  cases rb
                  rfl
                | @r n a em =>
                  obtain ⟨o, eo, ob⟩ := sep.get em
                  simp only [vw, eo] at e2
                  cases o <;> simp at e2
              cases neg with
              | false => exact op_in_sign pins s σ H x y v u Q I rx ry ⟨ch, z2, f1, f2, q⟩
              | true => exact op_notIn_sign pins s σ H x y v u Q I rx ry ⟨ch, z2, f1, f2, q⟩
            · cases e
          · cases e
        · cases e
      · rename_i ys e2
        split at e
        · rename_i sh
          cases e
          obtain ⟨as, r1⟩ := Dp.reads I _ _ _ (vw_dp sep ra e1 sh.1) rx
          obtain ⟨bs, r2⟩ := Dp.reads I _ _ _ (vw_dp sep rb e2 sh.2) ry
          obtain ⟨c1, c2⟩ := shp_list sh.2
          have room : X.A.units + 1 + min (PyData.depthAll ys) z1.depth < cLine := by
            have := Nat.min_le_left (PyData.depthAll ys) z1.depth
            omega
          cases neg with
          | false => exact SeqAt.in_list_reads r2 r1 c1 (SeqAt.canLay_of_shaped sh.1) room ⟨.bl _, H, I, rfl, q⟩
          | true => exact SeqAt.notIn_list_reads r2 r1 c1 (SeqAt.canLay_of_shaped sh.1) room ⟨.bl _, H, I, rfl, q⟩
        · cases e
      · rename_i ys e2
        split at e
        · rename_i sh
          cases e
          obtain ⟨as, r1⟩ := Dp.reads I _ _ _ (vw_dp sep ra e1 sh.1) rx
          obtain ⟨bs, r2⟩ := Dp.reads I _ _ _ (vw_dp sep rb e2 sh.2) ry
          obtain ⟨c1, c2⟩ := shp_tup sh.2
          have room : X.A.units + 1 + min (PyData.depthAll ys) z1.depth < cLine := by
            have := Nat.min_le_left (PyData.depthAll ys) z1.depth
            omega
          cases neg with
          | false => exact SeqAt.in_tuple_reads r2 r1 c1 (SeqAt.canLay_of_shaped sh.1) room ⟨.bl _, H, I, rfl, q⟩
          | true => exact SeqAt.notIn_tuple_reads r2 r1 c1 (SeqAt.canLay_of_shaped sh.1) room ⟨.bl _, H, I, rfl, q⟩
        · cases e
      · cases e
theorem cmp_ok {o : CmpOp} {a b : W} {c : Bool} {x y : V} {v u : Value} (I : L2.Inv X pins σ H s) (hu : X.A.units + 100 < cLine) (sep : Sep X.prog X.w X.K m F h H) (ra : RW X.prog X.w X.K m F x a) (rb : RW X.prog X.w X.K m F y b) (rx : RelV x v) (ry : RelV y u)
    (e : cmpB o a b h = some c) (q : Q (.bl c) H) : wpAny (model X.prog X.w) X.A (compareOp o v u) (EP X pins σ Q) X.xe s := by
  have hu64 : X.A.units + 64 < cLine := by omega
  cases o with
  | Eq =>
    simp only [cmpB] at e
    split at e
    · rename_i d1 d2 e1 e2
      split at e
      · rename_i sh
        cases e
        exact op_eqD hu64 pins s σ H x y v u Q I rx ry ⟨d1, d2, vw_dp sep ra e1 sh.1, vw_dp sep rb e2 sh.2, sh.1, sh.2, q⟩
      · cases e
    · cases e
  | NotEq =>
    simp only [cmpB] at e
    split at e
    · rename_i d1 d2 e1 e2
      split at e
      · rename_i sh
        cases e
        exact op_neD hu64 pins s σ H x y v u Q I rx ry ⟨d1, d2, vw_dp sep ra e1 sh.1, vw_dp sep rb e2 sh.2, sh.1, sh.2, q⟩
      · cases e
    · cases e
  | Lt =>
    simp only [cmpB] at e
    split at e
    · cases ra with
      | d ra =>
        cases rb with
        | d rb => exact lt_ok I hu sep.sub ra rb rx ry e q
    · cases e
  | Gt =>
    simp only [cmpB] at e
    split at e
    · cases e
      cases ra with
      | d ra =>
        cases rb with
        | d rb =>
          cases ra
          cases rb
          exact op_gt pins s σ H _ _ v u Q I rx ry ⟨_, _, rfl, rfl, q⟩
    · cases e
  | LtE =>
    simp only [cmpB] at e
    split at e
    · cases e
      cases ra with
      | d ra =>
        cases rb with
        | d rb =>
          cases ra
          cases rb
          exact op_le pins s σ H _ _ v u Q I rx ry ⟨_, _, rfl, rfl, q⟩
    · cases e
  | GtE =>
    simp only [cmpB] at e
    split at e
    · cases e
      cases ra with
      | d ra =>
        cases rb with
        | d rb =>
          cases ra
          cases rb
          exact op_ge pins s σ H _ _ v u Q I rx ry ⟨_, _, rfl, rfl, q⟩
    · cases e
  | Is =>
    simp only [cmpB] at e
    split at e
    · cases e
      cases rb with
      | d rb =>
        cases rb
        exact op_isN pins s σ H x _ v u Q I rx ry ⟨rfl, by rw [none_iff ra]; exact q⟩
    · cases e
  | IsNot =>
    simp only [cmpB] at e
    split at e
    · cases e
      cases rb with
      | d rb =>
        cases rb
        exact op_notN pins s σ H x _ v u Q I rx ry ⟨rfl, by rw [none_iff ra]; exact q⟩
    · cases e
  | In => exact mem_ok (neg := false) I hu sep ra rb rx ry e q
  | NotIn =>
    simp only [cmpB, Option.map_eq_some_iff] at e
    obtain ⟨c', e1, rfl⟩ := e
    exact mem_ok (neg := true) I hu sep ra rb rx ry e1 q
end
section
variable {X : Cx}
theorem op_cmpW {E : XK} {o : CmpOp} (hu : X.A.units + 100 < cLine) : OpR X (compareOp o) (rB X.prog X.w X.K E (cmpW o)) := by
  intro pins s σ H x y v u Q I rx ry hyp
  obtain ⟨F, m, h, a, b, sep, ra, rb, p⟩ := hyp
  unfold cmpW at p
  split at p
  · rename_i c e
    exact cmp_ok I hu sep ra rb rx ry e (p.rok sep (.bl c))
  · exact p.elim
theorem atI_rel {P : Program} {w : World} {K : PySem.W.Frag} {m : List Addr} {F : Hp} {vs : List V} {ws : List W} {i : Int} {x : W} (r : RWs P w K m F vs ws) (e : atI ws i = some x) : ∃ v, atI vs i = some v ∧ RW P w K m F v x := by
  unfold atI at e ⊢
  rw [r.length]
  obtain ⟨j, e1, e2⟩ := Option.bind_eq_some_iff.mp e
  have get : ∀ {vs : List V} {ws : List W} {j : Nat}, RWs P w K m F vs ws → ws[j]? = some x → ∃ v, vs[j]? = some v ∧ RW P w K m F v x := by
    intro vs ws j r
    induction r generalizing j with
    | nil => intro z; simp at z
    | cons a b ih =>
      intro z
      cases j with
      | zero =>
        simp only [List.getElem?_cons_zero, Option.some.injEq] at z
        subst z
        exact ⟨_, by simp, a⟩
      | succ j =>
        simp only [List.getElem?_cons_succ] at z ⊢
        exact ih z
  obtain ⟨v, e3, rv⟩ := get r e2
  exact ⟨v, by rw [e1]; exact e3, rv⟩
theorem ix_dict {pins : List (Addr × Obj)} {s : Shared} {σ : L2.St} {Q : VK} {value slice : Expr} {d p : Addr} {xs : List (NestedKey × Addr × Value)} {κ : NestedKey} {b : Addr} {z : Value} (hu : X.A.units + 100 < cLine) (hm : s.heap.DictOfH (nestedKind X.prog X.w) d xs)
    (hk : (nestedKind X.prog X.w).is s.heap κ p) (e : atKey xs κ = some (b, z)) (hq : ∀ tk, EP X pins σ Q z { s with toks := tk }) (hs : subscripted slice false (.ref d) (.ref p) = operate [.ref d, .ref p] (getItem (.ref d) (.ref p))) :
    wpAny (model X.prog X.w) X.A (subscriptTail value slice (.ref d) (.ref p)) (EP X pins σ Q) X.xe s := by
  have ru : (nestedKind X.prog X.w).room X.A.in1 := by
    show X.A.units + 1 + 8 < cLine
    omega
  exact tail_any hm.typeIs PySem.slot_dict_getitem.lookup (wpAny_getItem_heap ru hk hm e (hq _)) hs
theorem ix_W {E : XK} (hu : X.A.units + 100 < cLine) : IxR X (rB X.prog X.w X.K E subW) := by
  intro value slice pins s σ H x y v u Q I rx ry hyp hs
  obtain ⟨F, m, h, a, b, sep, ra, rb, p⟩ := hyp
  unfold subW at p
  split at p
  · rename_i kvs ed
    split at p
    · rename_i k
      split at p
      · rename_i z e
        split at e
        · rename_i kt
          obtain ⟨κ, ek, _, ks, rfl⟩ := keyT_nk kt
          obtain ⟨d, xs, ep, rfl, eH, ns, nd, rr⟩ := dq_at sep ra ed
          cases rx
          cases rb with
          | d rb =>
            cases rb with
            | @tup q vs _ t rs =>
              cases ry
              have hm := dic_at I sep.sub eH nd rr
              have hk := key_is I sep.sub (.tup t rs) kt ek
              rcases look_at rr ek with ⟨z1, _⟩ | ⟨z', b, u, v, z1, z2, z3, z4⟩
              · rw [z1] at e; cases e
              · rw [z1] at e
                cases e
                exact ix_dict hu hm hk z2 (fun tk => ⟨v, H, I.tok _, z3, p.here sep z4⟩) hs
        · cases e
      · exact p.elim
    · exact p.elim
  · split at p
    · rename_i t ws i es
      split at p
      · rename_i z e
        obtain ⟨l, vs, rfl, rv, k1⟩ := sq_at sep ra es
        obtain ⟨y', e2, ry'⟩ := atI_rel rv e
        cases rb with
        | d rb =>
          cases rb
          rcases k1 with ⟨rfl, k1⟩ | ⟨rfl, k1⟩
          · exact ix_tup value slice pins s σ H _ _ v u Q I rx ry ⟨l, vs, i, y', rfl, rfl, sqT_mono sep.sub k1.sq, e2, p.here sep ry'⟩ hs
          · exact ix_list value slice pins s σ H _ _ v u Q I rx ry ⟨l, vs, i, y', rfl, rfl, .inl k1, e2, p.here sep ry'⟩ hs
      · exact p.elim
    · exact p.elim
theorem RWs.drop {P : Program} {w : World} {K : PySem.W.Frag} {m : List Addr} {F : Hp} : ∀ {vs : List V} {ws : List W} (n : Nat), RWs P w K m F vs ws → RWs P w K m F (vs.drop n) (ws.drop n)
  | _, _, 0, r => r
  | _, _, _ + 1, .nil => .nil
  | _, _, n + 1, .cons _ r => RWs.drop n r
theorem RWs.take {P : Program} {w : World} {K : PySem.W.Frag} {m : List Addr} {F : Hp} : ∀ {vs : List V} {ws : List W} (n : Nat), RWs P w K m F vs ws → RWs P w K m F (vs.take n) (ws.take n)
  | _, _, 0, _ => .nil
  | _, _, _ + 1, .nil => .nil
  | _, _, n + 1, .cons a r => .cons a (RWs.take n r)
theorem cut_rel {P : Program} {w : World} {K : PySem.W.Frag} {m : List Addr} {F : Hp} {vs : List V} {ws : List W} (lo hi : Option Int) (r : RWs P w K m F vs ws) : RWs P w K m F (cutV vs lo hi) (cutW ws lo hi) := by
  unfold cutV cutW
  rw [r.length]
  exact (r.drop _).take _
/-- the reading of a cut -/
def rSW (P : Program) (w : World) (K : PySem.W.Frag) (E : XK) (mf : Bool) : V → Option Int → Option Int → Hp → VK → Prop := fun x lo hi H Q => ∃ F m h a, Sep P w K m F h H ∧ RW P w K m F x a ∧ Post P w K (RW P w K) E F m H (slcW mf a lo hi h) Q
theorem sl_W {E : XK} {mf : Bool} : SlR X (rSW X.prog X.w X.K E mf) := by
  intro pins s σ H x v vl vu lo hi sl Q I rx hs pl pu hyp
  obtain ⟨F, m, h, a, sep, ra, p⟩ := hyp
  unfold slcW at p
  split at p
  · rename_i ws es
    obtain ⟨l, vs, rfl, rv, k1⟩ := sq_at sep ra es
    rcases k1 with ⟨_, k1⟩ | ⟨z, _⟩
    · obtain ⟨hz, q, qs⟩ := p.mkt sep (cut_rel lo hi rv)
      cases rx
      obtain ⟨its, r, ht, hsz⟩ := I.tuple (sqT_mono sep.sub k1.sq)
      have hlen : its.toArray.size = vs.length := by rw [List.size_toArray]; exact r.length.symm
      refine ⟨"tuple", _, PyProof.Rows.slot_tuple_getitem.lookup, ht.typeIs, ?_⟩
      by_cases hw : HT.sIx vs.length 0 lo = 0 ∧ HT.sIx vs.length vs.length hi = vs.length
      · have whole : cutV vs lo hi = vs := by
          unfold cutV
          rw [hw.1, hw.2]
          simp
        exact getItem_tuple_whole ht hs pl pu (by rw [hlen]; exact hw) ⟨.ref l, H, I, rfl, qs l (by rw [whole]; exact k1)⟩
      · refine HT.getItem_tuple_cut ht hs pl pu (by rw [hlen]; exact hw) ?_ (by rw [hlen]; exact hsz)
        rw [hlen]
        exact tup_new (t' := s.toks) I ((r.drop _).take _) hz q
    · cases z
  · rename_i ws es
    obtain ⟨l, vs, rfl, rv, k1⟩ := sq_at sep ra es
    rcases k1 with ⟨z, _⟩ | ⟨_, k1⟩
    · cases z
    · obtain ⟨hz, q⟩ := p.mkl sep (cut_rel lo hi rv)
      exact sl_list pins s σ H _ v vl vu lo hi sl Q I rx hs pl pu ⟨l, vs, rfl, .inl k1, q⟩
  · exact p.elim
end
end Rf
/-! Calls of built-ins: by values. -/
namespace Rf
open PySem PySem.Spec PyProof.Rows L2
/-! ### sorting tuples of which some are empty -/
section
open PySem.W PySem.SeqAt PySem.Calls
variable {prog : Program} {w : World} {A : Around} {E : Value → Shared → Prop} {s : Shared}
def TupsAll (h : Heap) : List Value → List (Array Value) → Prop := EachIs fun v xs => ∃ a o n, v = .ref a ∧ h.get? a = some o ∧ o.cls = .type "tuple" ∧ o.data = .seq xs n
theorem tups_firsts : ∀ {vs : List Value} {xss : List (Array Value)} {Q : List (Option Value) → Shared → Prop}, TupsAll s.heap vs xss → Q (xss.map fun xs => xs[0]?) s → wpAny (model prog w) A (vs.mapM firstOfTuple') Q E s
  | _, _, _, .nil, h => by rw [List.mapM_nil]; exact wpAny_pure h
  | _, _, Q, .cons (bs := bs) (b := xs) ⟨a, o, n, e, g, c, d⟩ t, h => by
    subst e
    rw [List.mapM_cons]
    refine wpAny_bind ?_
    rw [kas_first_eq]
    refine wpAny_bind (Looks.here (show Looks (model prog w) s.heap (typeOf (.ref a)) o.cls from (Looks.ld g).andThen .now) ?_)
    rw [c, if_neg (by decide)]
    refine wpAny_bind (listItems_at g d (wpAny_pure ?_))
    exact wpAny_bind (tups_firsts (Q := fun bs s' => wpAny (model prog w) A (pure (xs[0]? :: bs)) Q E s') t (wpAny_pure h))
theorem one_tup {xs ys : List D} {a b : Value} {as bs : List Addr} {Q : Bool → Shared → Prop} (ra : Reads s.heap a (.tuple xs) as) (rb : Reads s.heap b (.tuple ys) bs) (h : alike (.tuple xs) (.tuple ys) = true)
    (hu : A.units + min (PyData.tuple xs).depth (PyData.tuple ys).depth < cLine) (hq : Q (dataLt (.tuple xs) (.tuple ys)) s) : wpAny (model prog w) A (oneLt' true a b) Q E s := by
  have hal : alikeAll xs ys = true := by simpa [alike] using h
  cases ra with
  | @tuple l o vs n _ as₁ h1 h2 h3 h4 =>
    cases rb with
    | @tuple l' o' vs' n' _ bs₁ k1 k2 k3 k4 =>
      have n1 : vs.size = xs.length := by simpa using ReadsAll.length _ _ _ h4
      have n2 : vs'.size = ys.length := by simpa using ReadsAll.length _ _ _ k4
      rw [dataLt_tuple, ← firstLt_toks xs ys hal, ← n1, ← n2] at hq
      rw [oneLt'_eq]
      simp only [if_true]
      have hr := room_here hu
      have hi := room_in hu
      obtain ⟨cls, dd, data, sl⟩ := o
      obtain ⟨cls2, dd2, data2, sl2⟩ := o'
      simp only at h2 h3 k2 k3
      subst h2 h3 k2 k3
      refine wpAny_bind (wpAny_cRoomFor hr (wpAny_bind ?_))
      refine wpAny_callSpecialIfBound?_slot (T := "tuple") ⟨_, h1, rfl⟩ F.slot_tuple_lt ?_
      refine call_meets F.slot_tuple_lt ⟨_, h1, rfl⟩ F.entry_tuple_lt (F.args_tuple_lt_2 _ _) (tuple_ltAt l l' vs vs' n n' dd dd2 sl sl2 (pairEq xs ys) fun j => dataLt (xs.getD j .none) (ys.getD j .none)) ⟨h1, k1, fun j j1 j2 => ?_, fun j j1 j2 hj => ?_, ?_⟩
      · have := eqAt_alikeAll xs ys A.in1 s vs.toList vs'.toList _ _ h4 k4 hal hi j (by simpa using j1) (by simpa using j2)
        simpa using this
      · have := rcLt_alikeAll xs ys A.in1 s vs.toList vs'.toList _ _ h4 k4 hal hi j (by simpa using j1) (by simpa using j2) hj
        simpa using this
      · exact wpAny_truthy_bool hq
theorem tups_of {h : Heap} : ∀ {vs : List Value} {ds : List D}, EachIs (fun v d => ∃ as, Reads h v d as) vs ds → (∀ d ∈ ds, ∃ xs, d = .tuple xs) → ∃ xss, TupsAll h vs xss ∧ ((∃ d ∈ ds, d = .tuple []) → (xss.map fun xs => xs[0]?).all (·.isSome) = false)
  | _, _, .nil, _ => ⟨[], .nil, fun ⟨_, m, _⟩ => by cases m⟩
  | _, _, .cons (b := d) ⟨as, r⟩ t, ht => by
    obtain ⟨xss, q1, q2⟩ := tups_of t fun d hd => ht d (List.mem_cons_of_mem _ hd)
    obtain ⟨xs, rfl⟩ := ht d (List.mem_cons_self ..)
    cases r with
    | @tuple a o vs n _ _ g c dt rr =>
      refine ⟨vs :: xss, .cons ⟨a, o, n, rfl, g, c, dt⟩ q1, ?_⟩
      rintro ⟨d', hd', rfl⟩
      rw [List.map_cons, List.all_cons]
      rcases List.mem_cons.mp hd' with e | hd'
      · injection e with e
        subst e
        have l := ReadsAll.length _ _ _ rr
        have : vs[0]? = none := by
          rw [Array.getElem?_eq_none_iff]
          simpa using l
        rw [this]
        rfl
      · rw [q2 ⟨_, hd', rfl⟩, Bool.and_false]
theorem sorts_tups {vs : List Value} {ds : List D} (e : EachIs (fun v d => ∃ as, Reads s.heap v d as) vs ds) (hal : AllAlike ds) (ht : ∀ d ∈ ds, ∃ xs, d = .tuple xs) (hu : ∀ d, d ∈ ds → A.units + d.depth < cLine) : SortsAt prog w A s (dataKind s.heap ds) vs := by
  by_cases he : ∃ d ∈ ds, d = .tuple []
  · have room : ∀ {d d' : D}, d ∈ ds → A.units + min d.depth d'.depth < cLine := fun {d d'} hd => Nat.lt_of_le_of_lt (Nat.add_le_add_left (Nat.min_le_left _ _) _) (hu d hd)
    obtain ⟨xss, t1, t2⟩ := tups_of e ht
    have z := t2 he
    refine ⟨fun v hv => ?_, ?_⟩
    · obtain ⟨d, hd, as, r⟩ := e.left v hv
      exact ⟨_, dataKind_some hal hd r⟩
    · by_cases c : (((xss.map fun xs => xs[0]?).toArray)[0]?.bind id).isSome = true
      · refine ⟨general', ?_, fun _ E Q hq => ?_⟩
        · intro E x y a b Q ha hb hq
          obtain ⟨d, as, hd, ra, rfl⟩ := dataKind_inv ha
          obtain ⟨d', as', hd', rb, rfl⟩ := dataKind_inv hb
          obtain ⟨xs, rfl⟩ := ht d hd
          exact oneLt_alike (f := false) (fun z => nomatch z) ra rb (hal _ hd d' hd') (fun z => nomatch z) (room hd) hq
        · rw [keyKind'_eq, List.mapM_toArray, map_eq_pure_bind]
          refine wpAny_bind (wpAny_bind (tups_firsts t1 (wpAny_pure ?_)))
          rw [if_neg (by rw [List.all_toArray, z]; exact Bool.false_ne_true), if_pos c]
          exact wpAny_pure hq
      · refine ⟨oneType', ?_, fun h2 E Q hq => ?_⟩
        · intro E x y a b Q ha hb hq
          obtain ⟨d, as, hd, ra, rfl⟩ := dataKind_inv ha
          obtain ⟨d', as', hd', rb, rfl⟩ := dataKind_inv hb
          obtain ⟨xs, rfl⟩ := ht d hd
          obtain ⟨ys, rfl⟩ := ht d' hd'
          exact one_tup ra rb (hal _ hd _ hd') (room hd) hq
        · rw [keyKind'_eq, List.mapM_toArray, map_eq_pure_bind]
          refine wpAny_bind (wpAny_bind (tups_firsts t1 (wpAny_pure ?_)))
          rw [if_neg (by rw [List.all_toArray, z]; exact Bool.false_ne_true), if_neg c, oneTypeOnly'_eq, List.mapM_toArray, map_eq_pure_bind]
          have hT : ∀ v ∈ vs, Looks (model prog w) s.heap (typeOf v) (.type "tuple") := fun v hv => by
            obtain ⟨d, hd, as, r⟩ := e.left v hv
            obtain ⟨xs, rfl⟩ := ht d hd
            exact looks_reads r
          refine wpAny_bind (wpAny_bind (wpAny_bind (kas_mapM (r := .type "tuple") _ (fun v hv Q' hq => (hT v hv).here hq) (wpAny_pure ?_))))
          have h0 : (List.map (fun _ => Value.type "tuple") vs).toArray[0]? = some (.type "tuple") := by
            cases vs with
            | nil => simp at h2
            | cons v vs => simp
          have h1 : ((List.map (fun _ => Value.type "tuple") vs).toArray.all fun x => x == Value.type "tuple") = true := by
            simp only [List.all_toArray, List.all_eq_true, List.mem_map]
            rintro x ⟨_, _, rfl⟩
            decide
          rw [h0]
          simp only [h1, if_true]
          exact wpAny_pure (wpAny_pure hq)
  · refine SortsAt.data e hal (.inl fun d hd => ?_) hu
    obtain ⟨xs, rfl⟩ := ht d hd
    cases xs with
    | nil => exact absurd ⟨_, hd, rfl⟩ he
    | cons x r => exact ⟨x, r, rfl⟩
end
end Rf
/-! Calls of built-ins: by values. -/
namespace Rf
open PySem PySem.Spec PyProof.Rows L2
section
variable {P : Program} {w : World} {K : PySem.W.Frag} {F H : Hp} {m : List Addr} {h : Hs} {E : XK}
theorem bools_rel : ∀ {vs : List V} {ws : List W} {bs : List Bool}, RWs P w K m F vs ws → bools ws = some bs → vs = bs.map V.bl
  | _, _, _, .nil, e => by
    cases e; rfl
  | _, _, _, .cons (a := v) (b := x) a b, e => by
    cases a with
    | r _ => cases e
    | d a =>
      cases a with
      | bl c =>
        obtain ⟨bs, e1, rfl⟩ := Option.map_eq_some_iff.mp (show Option.map _ _ = _ from e)
        rw [bools_rel b e1]
        rfl
      | non => cases e
      | int _ => cases e
      | str _ => cases e
      | lst _ _ => cases e
      | tup _ _ => cases e
      | dct _ _ _ _ => cases e
theorem ints_rel : ∀ {vs : List V} {ws : List W} {bs : List Int}, RWs P w K m F vs ws → intsW ws = some bs → vs = bs.map V.int
  | _, _, _, .nil, e => by
    cases e; rfl
  | _, _, _, .cons (a := v) (b := x) a b, e => by
    cases a with
    | r _ => cases e
    | d a =>
      cases a with
      | int c =>
        obtain ⟨bs, e1, rfl⟩ := Option.map_eq_some_iff.mp (show Option.map _ _ = _ from e)
        rw [ints_rel b e1]
        rfl
      | non => cases e
      | bl _ => cases e
      | str _ => cases e
      | lst _ _ => cases e
      | tup _ _ => cases e
      | dct _ _ _ _ => cases e
theorem rk_of : ∀ {xs : List (NestedKey × Addr × Value)} {kvs : List (D × W)} {ds : List (D × D)}, RKW P w K m F xs kvs → allV datW kvs = some ds → RK P w K F xs ds
  | _, _, _, .nil, e => by
    cases e; exact .nil
  | _, _, _, .cons (x := x) a kt b' c d r, e => by
    unfold allV at e
    split at e
    · rename_i y ys e1 e2
      cases e
      cases d with
      | r _ => cases e1
      | d d =>
        cases e1
        exact .cons a kt b' c d (rk_of r e2)
    · cases e
/-- a new dict -/
theorem Post.mkd {mf : Bool} {xs : List (NestedKey × Addr × Value)} {kvs : List (D × W)} {Q : VK} (p : Post P w K (RW P w K) E F m H (mkd mf kvs h) Q) (s : Sep P w K m F h H) (r : RKW P w K m F xs kvs) (nd : (xs.map (·.1)).Nodup) :
    ∀ a ep, H a = none → (a == sysModules) = false → Q (.ref a) (upd H a (tdic P w a xs ep)) := by
  intro a ep na ns
  unfold Rf.mkd at p
  split at p
  · obtain ⟨t, s'⟩ := s.layO (o := tdic P w a xs ep) (b := .dct false kvs) na ⟨fun _ => s.noF na, ns, xs, ep, upd_same, (fun z => Bool.noConfusion z), nd, r.mono (fun _ _ e => e) fun n a e => by
      rw [List.getElem?_append_left (List.getElem?_eq_some_iff.mp e).1]; exact e⟩
    refine p _ _ _ _ t s' (.r ?_)
    rw [List.getElem?_append_right (by rw [s.len]; exact Nat.le_refl _)]
    simp [s.len]
  · split at p
    · rename_i ds e
      obtain ⟨t, s'⟩ := s.layF (o := tdic P w a xs ep) na
      exact p _ _ _ _ t s' (.d (.dct upd_same ns nd ((rk_of r e).mono t.ext)))
    · exact p.elim
end
section
variable {X : Cx}
/-- the reading of a call that g tells -/
def rC (P : Program) (w : World) (K : PySem.W.Frag) (E : XK) (g : List W → Hs → Res W) : List V → Hp → VK → Prop := fun xs H Q => ∃ F m h ws, Sep P w K m F h H ∧ RWs P w K m F xs ws ∧ Post P w K (RW P w K) E F m H (g ws h) Q
theorem rws1 {P : Program} {w : World} {K : PySem.W.Frag} {F : Hp} {m : List Addr} {xs : List V} {a : W} (r : RWs P w K m F xs [a]) : ∃ x, xs = [x] ∧ RW P w K m F x a := by
  cases r with
  | cons a b => cases b; exact ⟨_, rfl, a⟩
theorem rws2 {P : Program} {w : World} {K : PySem.W.Frag} {F : Hp} {m : List Addr} {xs : List V} {a b : W} (r : RWs P w K m F xs [a, b]) : ∃ x y, xs = [x, y] ∧ RW P w K m F x a ∧ RW P w K m F y b := by
  cases r with
  | cons a r =>
    obtain ⟨y, rfl, b⟩ := rws1 r
    exact ⟨_, y, rfl, a, b⟩
theorem calm_room (hu : X.A.units + 100 < cLine) : True := trivial
theorem tdic_new {pins : List (Addr × Obj)} {s : Shared} {σ : L2.St} {H : Hp} {h' : Heap} {tk : Nat} {Q : VK} {xs : List (NestedKey × Addr × Value)} {a : Addr} (I : L2.Inv X pins σ H s) (kp : ∀ b o, s.heap.get? b = some o → h'.get? b = some o) (hd : h'.DictOfH (nestedKind X.prog X.w) a xs)
    (na : s.heap.objs.size ≤ a) (q : ∀ ep, H a = none → (a == sysModules) = false → Q (.ref a) (upd H a (tdic X.prog X.w a xs ep))) : EP X pins σ Q (.ref a) { s with heap := h', toks := tk } := by
  obtain ⟨o, es, ep, g, ex, dt, el, _, _⟩ := hd
  have hn : H a = none := I.hok.fresh na
  have ns : (a == sysModules) = false := beq_eq_false_iff_ne.mpr (fun z => by
    rw [z] at na
    exact absurd I.big (Nat.not_lt.mpr na))
  refine ⟨.ref a, upd H a (tdic X.prog X.w a xs ep), ?_, rfl, q ep hn ns⟩
  refine I.laid (t' := tk) kp na ?_
  refine ⟨⟨o, es, g, ex, dt, el⟩, ⟨o, g⟩, ?_⟩
  rintro h1 h2 ⟨o1, es1, g1, r1⟩ k
  exact ⟨o1, es1, k o1 g1, r1⟩
theorem b_len {E : XK} {mf : Bool} : CallR X (.builtin "len") (rC X.prog X.w X.K E (bifW .len mf)) := by
  intro pins s σ H xs us Q I r hyp
  obtain ⟨F, m, h, ws, sep, rs, p⟩ := hyp
  unfold bifW at p
  split at p <;> try cases ‹Bi.len = _›
  · rename_i w _
    obtain ⟨x, rfl, rx⟩ := rws1 rs
    split at p
    · rename_i z
      split at p
      · rename_i l
        cases rx with
        | d rx =>
          cases rx
          exact call_len_str pins s σ H _ us Q I r ⟨z, rfl, lim_le l, p.rok sep (.int _)⟩
      · exact p.elim
    · split at p
      · rename_i t ys es
        obtain ⟨a, vs, rfl, rv, k⟩ := sq_at sep rx es
        have l : vs.length = ys.length := rv.length
        refine call_len_seq pins s σ H _ us Q I r ⟨a, vs, rfl, ?_, by rw [l]; exact p.rok sep (.int _)⟩
        rcases k with ⟨_, k⟩ | ⟨_, k⟩
        · exact .inr (sqT_mono sep.sub k.sq)
        · exact .inl (.inl k)
      · split at p
        · rename_i kvs ed
          split at p
          · rename_i l
            obtain ⟨d, xs, ep, rfl, eH, ns, nd, rr⟩ := dq_at sep rx ed
            obtain ⟨u, rfl, ru⟩ := vals1 r
            cases ru
            have hm := dic_at I sep.sub eH nd rr
            have hk : s.heap.DictKeyed (nestedKind X.prog X.w) d (pairsH xs) := ⟨xs, hm, rfl⟩
            have el : (pairsH xs).length = kvs.length := by rw [pairsH_length, rr.len]
            refine call_len_slot (n := kvs.length) hm.typeIs PySem.F.slot_dict_len (fun Q' hq => len_keyed ns hk ?_) (by omega) (by
              have := lim_le l
              have := line63
              omega) ?_
            · rw [el]; exact hq
            · exact ⟨.int kvs.length, H, I.tok _, ⟨_, rfl⟩, p.rok sep (.int _)⟩
          · exact p.elim
        · exact p.elim
  · exact p.elim
end
end Rf
/-! Calls of built-ins, isinstance: by values. -/
namespace Rf
open PySem PySem.Spec PyProof.Rows L2
section
variable {X : Cx}
theorem b_all {E : XK} {mf : Bool} (hc : X.calm = true) : CallR X (.builtin "all") (rC X.prog X.w X.K E (bifW .all mf)) := by
  intro pins s σ H xs us Q I r hyp
  obtain ⟨F, m, h, ws, sep, rs, p⟩ := hyp
  unfold bifW at p
  split at p <;> try cases ‹Bi.all = _›
  · obtain ⟨x, rfl, rx⟩ := rws1 rs
    split at p
    · rename_i ys es
      split at p
      · rename_i bs eb
        obtain ⟨a, vs, rfl, rv, k⟩ := sq_at sep rx es
        rcases k with ⟨z, _⟩ | ⟨_, k⟩
        · cases z
        · have e := bools_rel rv eb
          subst e
          exact cr_all hc pins s σ H _ us Q I r ⟨a, bs, rfl, .inl k, p.rok sep (.bl _)⟩
      · exact p.elim
    · exact p.elim
  · exact p.elim
theorem b_any {E : XK} {mf : Bool} (hc : X.calm = true) : CallR X (.builtin "any") (rC X.prog X.w X.K E (bifW .any mf)) := by
  intro pins s σ H xs us Q I r hyp
  obtain ⟨F, m, h, ws, sep, rs, p⟩ := hyp
  unfold bifW at p
  split at p <;> try cases ‹Bi.any = _›
  · obtain ⟨x, rfl, rx⟩ := rws1 rs
    split at p
    · rename_i ys es
      split at p
      · rename_i bs eb
        obtain ⟨a, vs, rfl, rv, k⟩ := sq_at sep rx es
        rcases k with ⟨z, _⟩ | ⟨_, k⟩
        · cases z
        · have e := bools_rel rv eb
          subst e
          exact cr_any hc pins s σ H _ us Q I r ⟨a, bs, rfl, .inl k, p.rok sep (.bl _)⟩
      · exact p.elim
    · exact p.elim
  · exact p.elim
theorem b_sum {E : XK} {mf : Bool} (hc : X.calm = true) : CallR X (.builtin "sum") (rC X.prog X.w X.K E (bifW .sum mf)) := by
  intro pins s σ H xs us Q I r hyp
  obtain ⟨F, m, h, ws, sep, rs, p⟩ := hyp
  unfold bifW at p
  split at p <;> try cases ‹Bi.sum = _›
  · obtain ⟨x, rfl, rx⟩ := rws1 rs
    split at p
    · rename_i ys es
      split at p
      · rename_i bs eb
        obtain ⟨a, vs, rfl, rv, k⟩ := sq_at sep rx es
        rcases k with ⟨z, _⟩ | ⟨_, k⟩
        · cases z
        · have e := ints_rel rv eb
          subst e
          exact cr_sum hc pins s σ H _ us Q I r ⟨a, bs, rfl, .inl k, p.rok sep (.int _)⟩
      · exact p.elim
    · exact p.elim
  · exact p.elim
theorem b_abs {E : XK} {mf : Bool} : CallR X (.builtin "abs") (rC X.prog X.w X.K E (bifW .abs mf)) := by
  intro pins s σ H xs us Q I r hyp
  obtain ⟨F, m, h, ws, sep, rs, p⟩ := hyp
  unfold bifW at p
  split at p <;> try cases ‹Bi.abs = _›
  · obtain ⟨x, rfl, rx⟩ := rws1 rs
    cases rx with
    | d rx =>
      cases rx
      exact call_abs pins s σ H _ us Q I r ⟨_, rfl, p.rok sep (.int _)⟩
  · exact p.elim
theorem b_max2 {E : XK} {mf : Bool} (hc : X.calm = true) : CallR X (.builtin "max") (rC X.prog X.w X.K E (bifW .max2 mf)) := by
  intro pins s σ H xs us Q I r hyp
  obtain ⟨F, m, h, ws, sep, rs, p⟩ := hyp
  unfold bifW at p
  split at p <;> try cases ‹Bi.max2 = _›
  · obtain ⟨x, y, rfl, rx, ry⟩ := rws2 rs
    cases rx with
    | d rx =>
      cases ry with
      | d ry =>
        cases rx
        cases ry
        exact call_max2 hc pins s σ H _ us Q I r ⟨_, _, rfl, p.rok sep (.int _)⟩
  · exact p.elim
theorem b_min2 {E : XK} {mf : Bool} (hc : X.calm = true) : CallR X (.builtin "min") (rC X.prog X.w X.K E (bifW .min2 mf)) := by
  intro pins s σ H xs us Q I r hyp
  obtain ⟨F, m, h, ws, sep, rs, p⟩ := hyp
  unfold bifW at p
  split at p <;> try cases ‹Bi.min2 = _›
  · obtain ⟨x, y, rfl, rx, ry⟩ := rws2 rs
    cases rx with
    | d rx =>
      cases ry with
      | d ry =>
        cases rx
        cases ry
        exact call_min2 hc pins s σ H _ us Q I r ⟨_, _, rfl, p.rok sep (.int _)⟩
  · exact p.elim
theorem b_int {E : XK} {mf : Bool} : CallR X (.type "int") (rC X.prog X.w X.K E (bifW .int mf)) := by
  intro pins s σ H xs us Q I r hyp
  obtain ⟨F, m, h, ws, sep, rs, p⟩ := hyp
  unfold bifW at p
  split at p <;> try cases ‹Bi.int = _›
  · obtain ⟨x, rfl, rx⟩ := rws1 rs
    cases rx with
    | d rx =>
      cases rx
      exact call_int1 pins s σ H _ us Q I r (.inl ⟨_, rfl, p.rok sep (.int _)⟩)
  · obtain ⟨x, rfl, rx⟩ := rws1 rs
    cases rx with
    | d rx =>
      cases rx
      exact call_int1 pins s σ H _ us Q I r (.inr ⟨_, rfl, p.rok sep (.int _)⟩)
  · exact p.elim
theorem b_list {E : XK} {mf : Bool} : CallR X (.type "list") (rC X.prog X.w X.K E (bifW .list mf)) := by
  intro pins s σ H xs us Q I r hyp
  obtain ⟨F, m, h, ws, sep, rs, p⟩ := hyp
  unfold bifW at p
  split at p <;> try cases ‹Bi.list = _›
  · obtain ⟨x, rfl, rx⟩ := rws1 rs
    split at p
    · rename_i t ys es
      obtain ⟨a, vs, rfl, rv, k⟩ := sq_at sep rx es
      obtain ⟨_, q⟩ := p.mkl sep rv
      refine call_list_of pins s σ H _ us Q I r ⟨a, vs, rfl, ?_, q⟩
      rcases k with ⟨_, k⟩ | ⟨_, k⟩
      · exact .inr (sqT_mono sep.sub k.sq)
      · exact .inl (.inl k)
    · exact p.elim
  · exact p.elim
theorem b_tuple {E : XK} {mf : Bool} : CallR X (.type "tuple") (rC X.prog X.w X.K E (bifW .tuple mf)) := by
  intro pins s σ H xs us Q I r hyp
  obtain ⟨F, m, h, ws, sep, rs, p⟩ := hyp
  unfold bifW at p
  split at p <;> try cases ‹Bi.tuple = _›
  · obtain ⟨x, rfl, rx⟩ := rws1 rs
    split at p
    · rename_i t ys es
      obtain ⟨a, vs, rfl, rv, k⟩ := sq_at sep rx es
      obtain ⟨hz, q, qs⟩ := p.mkt sep rv
      obtain ⟨u, rfl, ru⟩ := vals1 r
      cases ru
      rcases k with ⟨_, k⟩ | ⟨_, k⟩
      · obtain ⟨its, r', pl, _⟩ := I.tuple (sqT_mono sep.sub k.sq)
        exact call_tuple_same pl ⟨.ref a, H, I, rfl, qs a k⟩
      · obtain ⟨its, r', pl, hz'⟩ := I.list (.inl k)
        have hlen := r'.length
        refine call_tuple_list pl.isList (fun h' kp => ?_) (by simp only [List.size_toArray] <;> omega)
        have I1 : L2.Inv X pins σ H { s with heap := h' } := I.kept (t' := s.toks) kp
        exact tup_new (t' := s.toks) I1 r' hz q
    · exact p.elim
  · exact p.elim
/-! ### sorted -/
open PySem.W in
theorem each_rel {P : Program} {w : World} {K : PySem.W.Frag} {F : Hp} : ∀ {us : List Value} {ds : List D}, EachIs (fun u d => ∃ v, RelV v u ∧ RD P w K F v d) us ds → ∃ vs, Vals vs us ∧ RDs P w K F vs ds
  | _, _, .nil => ⟨[], .nil, .nil⟩
  | _, _, .cons ⟨v, r, q⟩ t => by
    obtain ⟨vs, a, b⟩ := each_rel t
    exact ⟨v :: vs, .cons r a, .cons q b⟩
open PySem.W in
theorem rel_each {P : Program} {w : World} {K : PySem.W.Frag} {F : Hp} : ∀ {vs : List V} {us : List Value} {ds : List D}, Vals vs us → RDs P w K F vs ds → EachIs (fun u d => ∃ v, RelV v u ∧ RD P w K F v d) us ds
  | _, _, _, .nil, .nil => .nil
  | _, _, _, .cons r a, .cons q b => .cons ⟨_, r, q⟩ (rel_each a b)
open PySem.W in
theorem all_alike {ds : List D} (e : srtB ds = true) : AllAlike ds ∧ ∀ d ∈ ds, shp d = true := by
  unfold srtB at e
  simp only [Bool.and_eq_true, List.all_eq_true] at e
  exact ⟨fun d hd d' hd' => e.1 d hd d' hd', e.2⟩
open PySem.W in
theorem sorts_ok {prog : Program} {w : World} {A : Around} {s : Shared} {vs : List Value} {ds : List D} (e : EachIs (fun v d => ∃ as, Reads s.heap v d as) vs ds) (hal : AllAlike ds) (k : srtK ds = true) (hu : ∀ d, d ∈ ds → A.units + d.depth < cLine) : SortsAt prog w A s (dataKind s.heap ds) vs := by
  unfold srtK at k
  simp only [Bool.or_eq_true, List.all_eq_true] at k
  rcases k with k | k
  · refine sorts_tups e hal (fun d hd => ?_) hu
    have z := k d hd
    cases d with
    | tuple xs => exact ⟨xs, rfl⟩
    | _ => exact absurd z (by simp)
  · refine SortsAt.data e hal (.inr fun d hd => ?_) hu
    have z := k d hd
    exact ⟨fun y => by rw [y] at z; simp at z, fun xs y => by rw [y] at z; simp at z⟩
open PySem.W in
theorem b_sorted {E : XK} {mf : Bool} (hu : X.A.units + 100 < cLine) : CallR X (.builtin "sorted") (rC X.prog X.w X.K E (bifW .sorted mf)) := by
  intro pins s σ H xs us Q I r hyp
  obtain ⟨F, m, h, ws, sep, rs, p⟩ := hyp
  unfold bifW at p
  split at p <;> try cases ‹Bi.sorted = _›
  · rename_i wv _
    obtain ⟨x, rfl, rx⟩ := rws1 rs
    split at p
    · rename_i ds ev
      split at p
      · rename_i c
        obtain ⟨c1, c2, c3⟩ := c
        obtain ⟨hal, hsh⟩ := all_alike c1
        have hx : ∃ a vs, x = .ref a ∧ Rd H a (.lst vs) ∧ RDs X.prog X.w X.K F vs ds := by
          cases rx with
          | d rx =>
            simp only [vw, Option.some.injEq] at ev
            subst ev
            cases rx with
            | lst q rr => exact ⟨_, _, rfl, rd_mono sep.sub q, rr⟩
          | @r n a em =>
            obtain ⟨o, eo, ob⟩ := sep.get em
            simp only [vw, eo] at ev
            cases o with
            | lst zs =>
              obtain ⟨ds', e1, e2⟩ := Option.map_eq_some_iff.mp ev
              cases e2
              obtain ⟨_, vs, eH, rr⟩ := ob
              exact ⟨a, vs, rfl, .inl eH, rds_all rr e1⟩
            | dct _ _ => cases ev
            | ins _ _ => cases ev
        obtain ⟨a, vs, rfl, ra, rr⟩ := hx
        obtain ⟨its, rv, pl, _⟩ := I.list (.inl ra)
        obtain ⟨u, rfl, ru⟩ := vals1 r
        cases ru
        have er0 : EachIs (fun v b => ∃ v', RelV v' v ∧ RD X.prog X.w X.K F v' b) its ds := rel_each rv rr
        have er : EachIs (fun v b => ∃ as, Reads s.heap v b as) its ds := (each_mem er0).mono fun v b ⟨⟨v', r1, r2⟩, hb⟩ => Dp.reads I _ _ _ (r2.dp sep.sub (SeqAt.canLay_of_shaped (hsh b hb))) r1
        have er' : EachIs (fun v b => ∃ as, Reads (sortingHeap (copyHeap s.heap its) (s.heap.objs.size + 1) its) v b as) its ds := er.mono fun _ _ ⟨as, r⟩ => ⟨as, PyProof.Rows.Reads.keeps (fun _ _ => sorting_copy_old) r⟩
        have hdp : ∀ d, d ∈ ds → X.A.in1.in1.units + d.depth < cLine := fun d hd => by
          have := SeqAt.depth_of_shaped (hsh d hd)
          show X.A.units + 1 + 1 + d.depth < cLine
          omega
        have hel : its.length = ds.length := er.length
        refine sorted_vals pl.isList (sorts_ok (s := { s with heap := sortingHeap (copyHeap s.heap its) (s.heap.objs.size + 1) its }) er' hal c2 hdp) (by rw [hel]; exact lim_le c3) ?_
        have fin := sortVals_data (enc := id) (R := fun v b => ∃ v', RelV v' v ∧ RD X.prog X.w X.K F v' b) (h' := sortingHeap (copyHeap s.heap its) (s.heap.objs.size + 1) its) (vs := its) (bs := ds) false er0 er' (by rw [List.map_id]; exact hal)
        rw [List.map_id] at fin
        obtain ⟨vs', r1, r2⟩ := each_rel fin
        obtain ⟨ep, he'⟩ := PyProof.Rows.sortedAll_at s.heap its (sortVals (dataKind (sortingHeap (copyHeap s.heap its) (s.heap.objs.size + 1) its) ds) false its its).toArray
        obtain ⟨hz, q⟩ := p.mkl sep (rws_d r2)
        exact ⟨.ref _, upd H (s.heap.objs.size + 1) (.lst vs'), I.laid (t' := s.toks) (fun _ _ => PyProof.Rows.sortedAll_old) (Nat.le_succ _) ⟨hz, _, ep, r1, he'⟩, rfl, q _ (I.hok.fresh (Nat.le_succ _))⟩
      · exact p.elim
    · exact p.elim
  · exact p.elim
end
/-! ### isinstance -/
def Ty.s : Ty → String
  | .int => "int" | .bool => "bool" | .str => "str" | .tuple => "tuple" | .list => "list"
theorem kit_non : ∀ t : Ty, kitB "NoneType" t.s = some false := by
  intro t
  cases t <;> decide +kernel
theorem kit_bool : ∀ t : Ty, kitB "bool" t.s = some (isiB (.bool true) t) := by
  intro t
  cases t <;> decide +kernel
theorem kit_int : ∀ t : Ty, kitB "int" t.s = some (isiB (.int 0) t) := by
  intro t
  cases t <;> decide +kernel
theorem kit_str : ∀ t : Ty, kitB "str" t.s = some (isiB (.str "") t) := by
  intro t
  cases t <;> decide +kernel
theorem kit_tuple : ∀ t : Ty, kitB "tuple" t.s = some (isiB (.tuple []) t) := by
  intro t
  cases t <;> decide +kernel
theorem kit_list : ∀ t : Ty, kitB "list" t.s = some (isiB (.list []) t) := by
  intro t
  cases t <;> decide +kernel
section
variable {P : Program} {w : World} {K : PySem.W.Frag} {F H : Hp} {m : List Addr} {h : Hs}
theorem rd_lst_ty {a : Addr} {vs : List V} (q : Rd H a (.lst vs)) : TyX K H (.ref a) (.type "list") := by
  rcases q with q | ⟨o, q⟩
  · exact .base (.lst q)
  · exact .base (.frz q)
theorem tf_ty {a : Addr} {vs : List V} (q : TF K H a vs) : TyX K H (.ref a) (.type "tuple") := by
  rcases q with ⟨o, q, _⟩ | ⟨o, its, n, e, c, _⟩
  · exact .fTuple q
  · exact .kTuple e c
theorem isi_ty {a : W} {v : V} {t : Ty} {b : Bool} (sep : Sep P w K m F h H) (r : RW P w K m F v a) (e : isiW a t h = some b) : ∃ T : String, TyX K H v (.type T) ∧ kitB T t.s = some b := by
  cases r with
  | d r =>
    cases r with
    | non =>
      cases e
      exact ⟨_, .base .non, by rw [kit_non]; cases t <;> rfl⟩
    | bl c =>
      cases e
      exact ⟨_, .base (.bl c), by rw [kit_bool]; cases t <;> rfl⟩
    | int c =>
      cases e
      exact ⟨_, .base (.int c), by rw [kit_int]; cases t <;> rfl⟩
    | str c =>
      cases e
      exact ⟨_, .base (.str c), by rw [kit_str]; cases t <;> rfl⟩
    | lst q _ =>
      cases e
      exact ⟨_, rd_lst_ty (rd_mono sep.sub q), by rw [kit_list]; cases t <;> rfl⟩
    | tup q _ =>
      cases e
      exact ⟨_, tf_ty (q.mono sep.sub), by rw [kit_tuple]; cases t <;> rfl⟩
    | dct _ _ _ _ => cases e
  | @r n a em =>
    obtain ⟨o, eo, ob⟩ := sep.get em
    simp only [isiW, eo] at e
    cases o with
    | lst xs =>
      cases e
      obtain ⟨_, vs, eH, rr⟩ := ob
      exact ⟨_, rd_lst_ty (.inl eH), by rw [kit_list]; cases t <;> rfl⟩
    | dct _ _ => cases e
    | ins _ _ => cases e
end
section
variable {X : Cx}
def rIW (P : Program) (w : World) (K : PySem.W.Frag) (t : Ty) : List V → Hp → VK → Prop := fun xs H Q => ∃ F m h a v b, xs = [v, .ty t.s] ∧ Sep P w K m F h H ∧ RW P w K m F v a ∧ isiW a t h = some b ∧ Q (.bl b) H
theorem b_isi {t : Ty} : CallR X (.builtin "isinstance") (rIW X.prog X.w X.K t) := by
  intro pins s σ H xs us Q I r hyp
  obtain ⟨F, m, h, a, v, b, rfl, sep, rv, e, q⟩ := hyp
  obtain ⟨T, ty, kb⟩ := isi_ty sep rv e
  exact call_isi pins s σ H _ us Q I r ⟨v, .ty t.s, .type T, .type t.s, b, rfl, .ty _, ty, kit_ty kb, q⟩
end
end Rf
/-! dict(pairs); methods: by values. -/
namespace Rf
open PySem PySem.Spec PyProof.Rows L2
theorem stored_nodup {xs : List (NestedKey × Addr × Value)} {κ : NestedKey} {b : Addr} {u : Value} (nd : (xs.map (·.1)).Nodup) : ((storedH xs κ b u).map (·.1)).Nodup := by
  cases e : atKey xs κ with
  | none =>
    rw [storedH_new e, List.map_append]
    refine List.nodup_append.mpr ⟨nd, by simp, ?_⟩
    intro a ha c hc
    have hc' : c = κ := by simpa using hc
    subst hc'
    rintro rfl
    obtain ⟨x, hx, hx'⟩ := List.mem_map.mp ha
    unfold atKey at e
    have z := Option.map_eq_none_iff.mp e
    have := List.find?_eq_none.mp z x hx
    exact this (decide_eq_true hx')
  | some p =>
    rw [storedH_old e]
    have z : (xs.map (putAt κ u)).map (·.1) = xs.map (·.1) := by
      rw [List.map_map]
      refine List.map_congr_left fun x _ => ?_
      show (putAt κ u x).1 = x.1
      unfold putAt
      split <;> rfl
    rw [z]
    exact nd
section
variable {P : Program} {w : World} {K : PySem.W.Frag} {F : Hp} {m : List Addr}
theorem puts_rel : ∀ {ps : List (NestedKey × Addr × Value)} {kvs : List (D × W)} {xs : List (NestedKey × Addr × Value)} {acc : List (D × W)}, RKW P w K m F xs acc → (xs.map (·.1)).Nodup → RKW P w K m F ps kvs →
    RKW P w K m F (storedAllH xs ps) (puts acc kvs) ∧ ((storedAllH xs ps).map (·.1)).Nodup
  | _, _, _, _, r, nd, .nil => ⟨r, nd⟩
  | _, _, xs, acc, r, nd, .cons (κ := κ) (b := b) (u := u) (k := k) (x := x) a kt b' c d rest => by
    have q := put_rel r nd a kt b' c d
    exact puts_rel (xs := storedH xs κ b u) (acc := put acc k x) q (stored_nodup nd) rest
end
section
variable {X : Cx} {pins : List (Addr × Obj)} {s : Shared} {σ : L2.St} {H F : Hp} {m : List Addr} {h : Hs}
theorem pairs_at (I : L2.Inv X pins σ H s) (hs : ∀ a o, F a = some o → H a = some o) : ∀ {vs : List V} {ws : List W} {its : List Value} {kvs : List (D × W)}, RWs X.prog X.w X.K m F vs ws → Vals vs its → pairs ws = some kvs → (kvs.all fun kv => keyT kv.1) = true →
    ∃ (ps : List (NestedKey × Addr × Value)) (Ts : List Addr), its = Ts.map Value.ref ∧ Ts.length = ps.length ∧ (∀ (j : Nat) κ b u, ps[j]? = some (κ, b, u) → ∃ T, Ts[j]? = some T ∧ PairAt s.heap T (.ref b) u) ∧ RKW X.prog X.w X.K m F ps kvs
  | _, _, _, _, .nil, .nil, e, _ => by
    cases e
    exact ⟨[], [], rfl, rfl, fun j κ b u z => by simp at z, .nil⟩
  | _, _, _, kvs, .cons (a := v) (b := x) a b, .cons r rs, e, kt => by
    unfold pairs at e
    split at e
    · cases ‹_ = []›
    · rename_i k d rest heq
      cases heq
      obtain ⟨kvs', e1, e2⟩ := Option.map_eq_some_iff.mp e
      subst e2
      simp only [List.all_cons, Bool.and_eq_true] at kt
      obtain ⟨ps, Ts, h1, h2, h3, h4⟩ := pairs_at I hs b rs e1 kt.2
      cases a with
      | d a =>
        cases a with
        | @tup p vs2 _ t rr =>
          cases r
          cases rr with
          | cons ra rr =>
            cases rr with
            | cons rb rr =>
              cases rr
              obtain ⟨o, its2, n, g, c, dn, dt, rv, _⟩ := (t.mono hs).obj I
              cases rv with
              | cons r1 rv =>
                cases rv with
                | cons r2 rv =>
                  cases rv
                  obtain ⟨κ, ek, _, ks, rfl⟩ := keyT_nk kt.1
                  cases ra with
                  | @tup q vs3 _ t2 rr2 =>
                    cases r1
                    refine ⟨(κ, q, _) :: ps, p :: Ts, by rw [h1]; rfl, by simp [h2], ?_, .cons (.tup t2 rr2) kt.1 ek r2 (.d rb) h4⟩
                    intro j κ' b' u' z
                    cases j with
                    | zero =>
                      simp only [List.getElem?_cons_zero, Option.some.injEq, Prod.mk.injEq] at z
                      obtain ⟨rfl, rfl, rfl⟩ := z
                      exact ⟨p, rfl, .inl ⟨o, g, c, n, dt⟩⟩
                    | succ j =>
                      simp only [List.getElem?_cons_succ] at z ⊢
                      exact h3 j κ' b' u' z
    · cases e
end
section
variable {X : Cx}
theorem b_dict {E : XK} {mf : Bool} (hc : X.calm = true) (hu : X.A.units + 100 < cLine) : CallR X (.type "dict") (rC X.prog X.w X.K E (bifW .dict mf)) := by
  intro pins s σ H xs us Q I r hyp
  obtain ⟨F, m, h, ws, sep, rs, p⟩ := hyp
  unfold bifW at p
  split at p <;> try cases ‹Bi.dict = _›
  · rename_i wv _
    obtain ⟨x, rfl, rx⟩ := rws1 rs
    split at p
    · rename_i t ys es
      split at p
      · rename_i kvs ek
        split at p
        · rename_i c
          obtain ⟨a, vs, rfl, rv, k⟩ := sq_at sep rx es
          obtain ⟨u, rfl, ru⟩ := vals1 r
          cases ru
          have main : ∀ (T : String) (its : List Value) (n : Nat) (o : Obj), (T = "tuple" ∨ T = "list") → Vals vs its → s.heap.get? a = some o → o.cls = .type T → o.dict = none → o.data = .seq its.toArray n →
              wpAny (model X.prog X.w) X.A (call (.type "dict") [.ref a]) (EP X pins σ Q) X.xe s := by
            intro T its n o hT rvs g oc od dt
            obtain ⟨ps, Ts, e1, e2, e3, e4⟩ := pairs_at I sep.sub rv rvs ek c.1
            have el : ps.length = kvs.length := e4.len
            have hps : (pairsH ps).length = ps.length := pairsH_length ps
            have pit : PairItems s.heap its.toArray (fun j => Ts.getD j 0) (ps.map fun q => (Value.ref q.2.1, q.2.2)) := by
              refine ⟨by simp [e1, e2], fun j k v z => ?_⟩
              rw [List.getElem?_map] at z
              obtain ⟨⟨κ, b, u⟩, z1, z2⟩ := Option.map_eq_some_iff.mp z
              cases z2
              obtain ⟨T, t1, t2⟩ := e3 j κ b u z1
              have t3 : Ts.getD j 0 = T := by rw [List.getD_eq_getElem?_getD, t1]; rfl
              show its.toArray[j]? = some (Value.ref (Ts.getD j 0)) ∧ PairAt s.heap (Ts.getD j 0) (Value.ref b) u
              rw [t3]
              exact ⟨by rw [e1]; simp [t1], t2⟩
            have hav : PairsHaveH (nestedKind X.prog X.w) (ps.map fun q => (Value.ref q.2.1, q.2.2)).length (PairRel (ps.map fun q => (Value.ref q.2.1, q.2.2))) ps := by
              refine ⟨by simp, fun i key v z => ?_⟩
              rw [show PairRel (ps.map fun q => (Value.ref q.2.1, q.2.2)) i key v ↔ (ps.map fun q => (Value.ref q.2.1, q.2.2))[i]? = some (key, v) from Iff.rfl, List.getElem?_map] at z
              obtain ⟨⟨κ, b, u⟩, z1, z2⟩ := Option.map_eq_some_iff.mp z
              cases z2
              exact ⟨κ, b, z1, rfl⟩
            have his : ∀ x ∈ ps, (nestedKind X.prog X.w).is s.heap x.1 x.2.1 := keys_are I sep.sub e4
            have stay : KeysStay (nestedKind X.prog X.w) s.heap s.heap.objs.size [] ps := fun h' hk x hx =>
              nestedKind_stays.all h' (fun b o _ e => hk b o (Nat.ne_of_lt (Heap.lt_size e)) (fun z => nomatch z) e) _ _ (his x hx)
            have ru : (nestedKind X.prog X.w).room X.A.in1.in1 := by
              show X.A.units + 1 + 1 + 8 < cLine
              omega
            have lz : (ps.map fun q => (Value.ref q.2.1, q.2.2)).length ≤ sizeLine := by
              rw [List.length_map, el]
              exact lim_le c.2
            obtain ⟨r1, nd1⟩ := puts_rel (RKW.nil (P := X.prog) (w := X.w) (K := X.K) (F := F) (m := m)) (by simp) e4
            have fin : ∀ h' tk, h'.DictOfH (nestedKind X.prog X.w) s.heap.objs.size (storedAllH [] ps) → (∀ b o, b ∉ ([] : List Addr) → s.heap.get? b = some o → h'.get? b = some o) → EP X pins σ Q (.ref s.heap.objs.size) { s with heap := h', toks := tk } := fun h' tk hd hk =>
              tdic_new I (fun b o e => hk b o (fun z => nomatch z) e) hd (Nat.le_refl _) fun ep na ns => p.mkd sep r1 nd1 _ ep na ns
            rcases hT with rfl | rfl
            · exact call_dict_pairsH (PairArg.tuple a its.toArray (fun j => Ts.getD j 0) (ps.map fun q => (Value.ref q.2.1, q.2.2))) (I.ok.hd hc) ru ⟨⟨o, n, g, oc, od, dt⟩, pit⟩ hav stay lz fin
            · exact call_dict_pairsH (PairArg.list a its.toArray (fun j => Ts.getD j 0) (ps.map fun q => (Value.ref q.2.1, q.2.2))) (I.ok.hd hc) ru ⟨⟨o, n, g, oc, od, dt⟩, pit⟩ hav stay lz fin
          rcases k with ⟨_, k⟩ | ⟨_, k⟩
          · obtain ⟨o, its, n, g, oc, od, dt, rvs, _⟩ := (k.mono sep.sub).obj I
            exact main "tuple" its n o (.inl rfl) rvs g oc od dt
          · obtain ⟨_, its, n, rvs, _, g⟩ := Inv.rdL I k
            exact main "list" its n _ (.inr rfl) rvs g rfl rfl rfl
        · exact p.elim
      · exact p.elim
    · exact p.elim
  · exact p.elim
end
end Rf
/-! Methods of lists, tuples and dicts; stores into lists, dicts, instances: by values. -/
namespace Rf
open PySem PySem.Spec PyProof.Rows L2
section
variable {P : Program} {w : World} {K : PySem.W.Frag} {F H : Hp} {m : List Addr} {h : Hs}
/-- a list of the small heap -/
theorem Sep.lst (s : Sep P w K m F h H) {n : Nat} {a : Addr} {ws : List W} (ea : m[n]? = some a) (e : h[n]? = some (.lst ws)) : F a = none ∧ ∃ vs, H a = some (.lst vs) ∧ RWs P w K m F vs ws := by
  obtain ⟨o, eo, ob⟩ := s.get ea
  rw [e] at eo
  cases eo
  exact ob
theorem Sep.dct (s : Sep P w K m F h H) {n : Nat} {a : Addr} {lk : Bool} {kvs : List (D × W)} (ea : m[n]? = some a) (e : h[n]? = some (.dct lk kvs)) : OB P w K m F H a (.dct lk kvs) := by
  obtain ⟨o, eo, ob⟩ := s.get ea
  rw [e] at eo
  cases eo
  exact ob
theorem Sep.ins (s : Sep P w K m F h H) {n : Nat} {a : Addr} {c : Str} {fs : List (Str × W)} (ea : m[n]? = some a) (e : h[n]? = some (.ins c fs)) : F a = none ∧ ∃ dx vs, H a = some (.ins (He.ga K c) dx vs) ∧ RF P w K m F vs fs := by
  obtain ⟨o, eo, ob⟩ := s.get ea
  rw [e] at eo
  cases eo
  exact ob
theorem Sep.setL (s : Sep P w K m F h H) {n : Nat} {a : Addr} {vs : List V} {ws : List W} (ea : m[n]? = some a) (f : F a = none) (r : RWs P w K m F vs ws) : Stp F m H F m (upd H a (.lst vs)) ∧ Sep P w K m F (h.set n (.lst ws)) (upd H a (.lst vs)) :=
  s.write ea f ⟨f, vs, upd_same, r⟩
theorem Sep.setD (s : Sep P w K m F h H) {n : Nat} {a : Addr} {xs : List (NestedKey × Addr × Value)} {ep : Nat} {kvs : List (D × W)} (ea : m[n]? = some a) (f : F a = none) (ns : (a == sysModules) = false) (nd : (xs.map (·.1)).Nodup) (r : RKW P w K m F xs kvs) :
    Stp F m H F m (upd H a (tdic P w a xs ep)) ∧ Sep P w K m F (h.set n (.dct false kvs)) (upd H a (tdic P w a xs ep)) :=
  s.write ea f ⟨fun _ => f, ns, xs, ep, upd_same, (fun z => Bool.noConfusion z), nd, r⟩
end
section
variable {X : Cx} {pins : List (Addr × Obj)} {s : Shared} {σ : L2.St} {H : Hp}
/-- a tracked dict is changed -/
theorem tdic_write {h' : Heap} {tk : Nat} {xs xs' : List (NestedKey × Addr × Value)} {a : Addr} {ep : Nat} (I : L2.Inv X pins σ H s) (eH : H a = some (tdic X.prog X.w a xs ep)) (hd : h'.DictOfH (nestedKind X.prog X.w) a xs') (sb : Heap.SameBut a s.heap h') :
    ∃ ep', L2.Inv X pins σ (upd H a (tdic X.prog X.w a xs' ep')) { s with heap := h', toks := tk } := by
  obtain ⟨o, es, ep', g, ex, dt, el, _, _⟩ := hd
  refine ⟨ep', I.write (t' := tk) (x := a) (e := a) (by rw [eH]; exact True.intro) (.inl rfl) (fun b q hb z => (sb.2 b hb).trans z) ⟨o, g⟩ ?_⟩
  refine ⟨⟨o, es, g, ex, dt, el⟩, ⟨o, g⟩, ?_⟩
  rintro h1 h2 ⟨o1, es1, g1, r1⟩ k
  exact ⟨o1, es1, k o1 g1, r1⟩
end
/-! ### what a method's receiver is -/
def kindS (x : W) (h : Hs) : Option String := match x with
  | .d (.list _) => some "list"
  | .d (.tuple _) => some "tuple"
  | .d (.dict _) => some "dict"
  | .r n => (match h[n]? with
    | some (.lst _) => some "list"
    | some (.dct _ _) => some "dict"
    | _ => none)
  | _ => none
def mtId (m : Mt) (T : String) : Option String := match m, T with
  | .append, "list" => some "list.append"
  | .pop0, "list" => some "list.pop"
  | .pop1, "list" => some "list.pop"
  | .index, "list" => some "list.index"
  | .index, "tuple" => some "tuple.index"
  | .get2, "dict" => some "dict.get"
  | .setdefault, "dict" => some "dict.setdefault"
  | _, _ => none
def kT : Nat → Option String
  | 1 => some "list"
  | 2 => some "tuple"
  | 3 => some "dict"
  | _ => none
theorem kind_eq (x : W) (h : Hs) : kindS x h = kT (kindW x h) := by
  unfold kindS kindW
  cases x with
  | d x => cases x <;> rfl
  | r n =>
    cases e : h[n]? with
    | none => simp [kT, e]
    | some o => cases o <;> simp [kT, e]
  | x _ _ => rfl
theorem mt_kind {m : Mt} {n : Nat} (e : mtB m n = true) : ∃ T id, kT n = some T ∧ mtId m T = some id := by
  cases m <;> simp only [mtB, Bool.or_eq_true, beq_iff_eq] at e
  case index => rcases e with rfl | rfl <;> exact ⟨_, _, rfl, rfl⟩
  all_goals subst e; exact ⟨_, _, rfl, rfl⟩
theorem kind_at {X : Cx} {pins : List (Addr × Obj)} {s : Shared} {σ : L2.St} {H F : Hp} {m : List Addr} {h : Hs} {x : W} {v : V} {u : Value} {T : String} (I : L2.Inv X pins σ H s) (sep : Sep X.prog X.w X.K m F h H) (r : RW X.prog X.w X.K m F v x) (ru : RelV v u) (e : kindS x h = some T) :
    s.TypeIs u T ∧ ∀ a, u = .ref a → ∃ ob, s.heap.get? a = some ob ∧ ob.dict = none := by
  have lst : ∀ {a : Addr} {vs : List V}, Rd H a (.lst vs) → s.TypeIs (.ref a) "list" ∧ ∀ b, Value.ref a = .ref b → ∃ ob, s.heap.get? b = some ob ∧ ob.dict = none := fun {a vs} q => by
    obtain ⟨_, its, n, _, _, g⟩ := Inv.rdL I q
    exact ⟨⟨_, g, rfl⟩, fun b z => by cases z; exact ⟨_, g, rfl⟩⟩
  have dct : ∀ {a : Addr} {xs : List (NestedKey × Addr × Value)} {ep : Nat}, H a = some (tdic X.prog X.w a xs ep) → s.TypeIs (.ref a) "dict" ∧ ∀ b, Value.ref a = .ref b → ∃ ob, s.heap.get? b = some ob ∧ ob.dict = none := fun {a xs ep} q => by
    obtain ⟨⟨o, es, g, ex, dt, el⟩, _, _⟩ := I.hok a _ q
    exact ⟨⟨o, g, ex.1⟩, fun b z => by cases z; exact ⟨_, g, ex.2.1⟩⟩
  cases r with
  | d r =>
    cases r with
    | lst q _ =>
      cases e; cases ru
      exact lst (rd_mono sep.sub q)
    | tup t _ =>
      cases e; cases ru
      obtain ⟨o, its, n, g, c, dn, _⟩ := (t.mono sep.sub).obj I
      exact ⟨⟨o, g, c⟩, fun b z => by cases z; exact ⟨_, g, dn⟩⟩
    | dct q _ _ _ =>
      cases e; cases ru
      exact dct (sep.sub _ _ q)
    | non => cases e
    | bl _ => cases e
    | int _ => cases e
    | str _ => cases e
  | @r n a em =>
    cases ru
    obtain ⟨o, eo, ob⟩ := sep.get em
    simp only [kindS, eo] at e
    cases o with
    | lst xs =>
      cases e
      obtain ⟨_, vs, eH, rr⟩ := ob
      exact lst (.inl eH)
    | dct lk kvs =>
      cases e
      obtain ⟨_, ns, xs, ep, eH, _⟩ := ob
      exact dct eH
    | ins _ _ => cases e
theorem mt_facts {m : Mt} {T id : String} (e : mtId m T = some id) : PlainAttrs T ∧ Slot T m.name id ∧ typeOf (.builtin id) = pure (.type "method_descriptor") := by
  unfold mtId at e
  split at e <;> cases e
  · exact ⟨PySem.F.plainAttrs_list, PySem.F.slot_list_append, PySem.F.type_list_append⟩
  · exact ⟨PySem.F.plainAttrs_list, PySem.F.slot_list_pop, PySem.F.type_list_pop⟩
  · exact ⟨PySem.F.plainAttrs_list, PySem.F.slot_list_pop, PySem.F.type_list_pop⟩
  · exact ⟨PySem.F.plainAttrs_list, PySem.F.slot_list_index, PySem.F.type_list_index⟩
  · exact ⟨PySem.F.plainAttrs_tuple, PySem.F.slot_tuple_index, PySem.F.type_tuple_index⟩
  · exact ⟨PySem.F.plainAttrs_dict, PySem.F.slot_dict_get, PySem.F.type_dict_get⟩
  · exact ⟨PySem.F.plainAttrs_dict, PySem.F.slot_dict_setdefault, PySem.F.type_dict_setdefault⟩
section
variable {X : Cx}
def rM (P : Program) (w : World) (K : PySem.W.Frag) (E : XK) (mt : Mt) (T : String) : V → List V → Hp → VK → Prop := fun x xs H Q => ∃ F m h a ws, Sep P w K m F h H ∧ RW P w K m F x a ∧ RWs P w K m F xs ws ∧ kindS a h = some T ∧ Post P w K (RW P w K) E F m H (mthW mt a ws h) Q
theorem m_append {E : XK} : MtM X "list.append" (rM X.prog X.w X.K E .append "list") := by
  intro pins s σ H x vs v us Q I rx rv hyp
  obtain ⟨F, m, h, a, ws, sep, ra, rs, _, p⟩ := hyp
  unfold mthW at p
  split at p <;> try cases ‹Mt.append = _›
  · rename_i _ y
    obtain ⟨z, rfl, rz⟩ := rws1 rs
    split at p
    · rename_i n
      split at p
      · rename_i xs eo
        split at p
        · rename_i l
          cases ra with
          | r ea =>
            obtain ⟨f, vs, eH, rr⟩ := sep.lst ea eo
            have r2 : RWs X.prog X.w X.K m F (vs ++ [z]) (xs ++ [y]) := rr.app (.cons rz .nil)
            obtain ⟨t, s'⟩ := sep.setL ea f r2
            refine mt_append pins s σ H _ _ v us Q I rx rv ⟨_, vs, z, rfl, rfl, eH, ?_, p _ _ _ _ t s' (.d .non)⟩
            rw [rr.length]
            exact Nat.lt_of_lt_of_le l (by decide)
        · exact p.elim
      · exact p.elim
    · exact p.elim
  · exact p.elim
theorem m_pop0 {E : XK} : MtM X "list.pop" (rM X.prog X.w X.K E .pop0 "list") := by
  intro pins s σ H x vs v us Q I rx rv hyp
  obtain ⟨F, m, h, a, ws, sep, ra, rs, _, p⟩ := hyp
  unfold mthW at p
  split at p <;> try cases ‹Mt.pop0 = _›
  · cases rs
    split at p
    · rename_i n
      split at p
      · rename_i xs eo
        split at p
        · rename_i y ey
          cases ra with
          | r ea =>
            obtain ⟨f, vs, eH, rr⟩ := sep.lst ea eo
            obtain ⟨z, ez, rz⟩ := atI_rel (i := (xs.length - 1 : Nat)) (x := y) rr (by
              unfold atI ixN
              have : xs.length - 1 < xs.length := (List.getElem?_eq_some_iff.mp ey).1
              rw [if_pos (by omega), if_pos (by omega)]
              simpa using ey)
            have hl : vs.length = xs.length := rr.length
            have ez' : vs[vs.length - 1]? = some z := by
              unfold atI ixN at ez
              have : xs.length - 1 < xs.length := (List.getElem?_eq_some_iff.mp ey).1
              rw [if_pos (by omega), if_pos (by omega)] at ez
              rw [hl]
              simpa using ez
            have r2 : RWs X.prog X.w X.K m F vs.dropLast xs.dropLast := by
              rw [List.dropLast_eq_take, List.dropLast_eq_take, hl]
              exact rr.take _
            obtain ⟨t, s'⟩ := sep.setL ea f r2
            exact mt_pop pins s σ H _ _ v us Q I rx rv ⟨_, vs, z, rfl, rfl, eH, ez', p _ _ _ _ t s' rz⟩
        · exact p.elim
      · exact p.elim
    · exact p.elim
  · exact p.elim
theorem RWs.erase {P : Program} {w : World} {K : PySem.W.Frag} {m : List Addr} {F : Hp} : ∀ {vs : List V} {ws : List W} (n : Nat), RWs P w K m F vs ws → RWs P w K m F (vs.eraseIdx n) (ws.eraseIdx n)
  | _, _, _, .nil => .nil
  | _, _, 0, .cons _ r => r
  | _, _, n + 1, .cons a r => .cons a (RWs.erase n r)
theorem RWs.set {P : Program} {w : World} {K : PySem.W.Frag} {m : List Addr} {F : Hp} {v : V} {x : W} (q : RW P w K m F v x) : ∀ {vs : List V} {ws : List W} (n : Nat), RWs P w K m F vs ws → RWs P w K m F (vs.set n v) (ws.set n x)
  | _, _, _, .nil => .nil
  | _, _, 0, .cons _ r => .cons q r
  | _, _, n + 1, .cons a r => .cons a (RWs.set q n r)
theorem RWs.get {P : Program} {w : World} {K : PySem.W.Frag} {m : List Addr} {F : Hp} : ∀ {vs : List V} {ws : List W} {n : Nat} {x : W}, RWs P w K m F vs ws → ws[n]? = some x → ∃ v, vs[n]? = some v ∧ RW P w K m F v x
  | _, _, n, x, .nil, e => by simp at e
  | _, _, 0, x, .cons a r, e => by
    simp only [List.getElem?_cons_zero, Option.some.injEq] at e
    subst e
    exact ⟨_, by simp, a⟩
  | _, _, n + 1, x, .cons a r, e => by
    simp only [List.getElem?_cons_succ] at e ⊢
    exact RWs.get r e
theorem m_pop1 {E : XK} : MtM X "list.pop" (rM X.prog X.w X.K E .pop1 "list") := by
  intro pins s σ H x vs v us Q I rx rv hyp
  obtain ⟨F, m, h, a, ws, sep, ra, rs, _, p⟩ := hyp
  unfold mthW at p
  split at p <;> try cases ‹Mt.pop1 = _›
  · rename_i _ i
    obtain ⟨z, rfl, rz⟩ := rws1 rs
    cases rz with
    | d rz =>
      cases rz
      split at p
      · rename_i n
        split at p
        · rename_i xs eo
          split at p
          · rename_i c
            split at p
            · rename_i y ey
              cases ra with
              | r ea =>
                obtain ⟨f, vs, eH, rr⟩ := sep.lst ea eo
                obtain ⟨z, ez, rz⟩ := rr.get ey
                have hl : vs.length = xs.length := rr.length
                have lt : i.toNat < xs.length := (List.getElem?_eq_some_iff.mp ey).1
                have hs : xs.length ≤ 10000000 := c.2
                obtain ⟨t, s'⟩ := sep.setL ea f (rr.erase i.toNat)
                refine mt_popAt pins s σ H _ _ v us Q I rx rv ⟨_, vs, i, i.toNat, z, rfl, rfl, eH, by omega, by omega, ?_, ez, p _ _ _ _ t s' rz⟩
                rw [hl]
                exact seqIndex_of c.1 (by omega)
            · exact p.elim
          · exact p.elim
        · exact p.elim
      · exact p.elim
  · exact p.elim
end
end Rf
/-! Methods of lists, tuples and dicts; stores into lists, dicts: by values. -/
namespace Rf
open PySem PySem.Spec PyProof.Rows L2
theorem fnd_facts {ds : List D} {x : D} {j : Nat} (e : fndX ds x = some j) : ∃ z, ds[j]? = some z ∧ PyData.eqv z x = true ∧ ∀ (m : Nat) (z' : D), m < j → ds[m]? = some z' → PyData.eqv z' x = false := by
  unfold fndX at e
  obtain ⟨h1, h2, h3⟩ := List.findIdx?_eq_some_iff_getElem.mp e
  refine ⟨ds[j], List.getElem?_eq_getElem h1, h2, fun m z' hm hz => ?_⟩
  have hm' : m < ds.length := Nat.lt_trans hm h1
  rw [List.getElem?_eq_getElem hm'] at hz
  cases hz
  have := h3 m hm
  simpa using this
section
variable {X : Cx}
theorem m_indexL {E : XK} (hu : X.A.units + 100 < cLine) : MtM X "list.index" (rM X.prog X.w X.K E .index "list") := by
  intro pins s σ H x vs v us Q I rx rv hyp
  obtain ⟨F, m, h, a, ws, sep, ra, rs, ek, p⟩ := hyp
  unfold mthW at p
  split at p <;> try cases ‹Mt.index = _›
  · rename_i _ d
    obtain ⟨z, rfl, rz⟩ := rws1 rs
    cases rz with
    | d rz =>
      split at p
      · rename_i ds ev
        split at p
        · rename_i c
          split at p
          · rename_i j ej
            obtain ⟨y, ey, e1, e2⟩ := fnd_facts ej
            have dp := vw_dp sep ra ev c.1
            cases dp with
            | lst hs ha =>
              exact mt_indexD (by omega) pins s σ H _ _ v us Q I rx rv ⟨_, z, d, ds, j, y, rfl, rfl, .lst hs ha, rz.dp sep.sub (SeqAt.canLay_of_shaped c.2), c.1, c.2, ey, e1, e2, p.rok sep (.int _)⟩
          · exact p.elim
        · exact p.elim
      · rename_i ds ev
        exfalso
        cases a with
        | d a =>
          simp only [vw, Option.some.injEq] at ev
          subst ev
          simp [kindS] at ek
        | r n =>
          simp only [vw] at ev
          split at ev
          · obtain ⟨_, _, z⟩ := Option.map_eq_some_iff.mp ev
            cases z
          · cases ev
        | x _ _ => cases ev
      · exact p.elim
  · exact p.elim
theorem m_indexT {E : XK} (hu : X.A.units + 100 < cLine) : MtM X "tuple.index" (rM X.prog X.w X.K E .index "tuple") := by
  intro pins s σ H x vs v us Q I rx rv hyp
  obtain ⟨F, m, h, a, ws, sep, ra, rs, ek, p⟩ := hyp
  unfold mthW at p
  split at p <;> try cases ‹Mt.index = _›
  · rename_i _ d
    obtain ⟨z, rfl, rz⟩ := rws1 rs
    cases rz with
    | d rz =>
      split at p
      · rename_i ds ev
        exfalso
        cases a with
        | d a =>
          simp only [vw, Option.some.injEq] at ev
          subst ev
          simp [kindS] at ek
        | r n =>
          simp only [vw] at ev
          split at ev
          · rename_i _ en
            simp [kindS, en] at ek
          · cases ev
        | x _ _ => cases ev
      · rename_i ds ev
        split at p
        · rename_i c
          split at p
          · rename_i j ej
            obtain ⟨y, ey, e1, e2⟩ := fnd_facts ej
            cases ra with
            | r em =>
              simp only [vw] at ev
              split at ev
              · obtain ⟨_, _, z⟩ := Option.map_eq_some_iff.mp ev
                cases z
              · cases ev
            | d ra =>
              simp only [vw, Option.some.injEq] at ev
              subst ev
              cases ra with
              | @tup l vs2 _ t rr =>
                cases rx
                obtain ⟨uz, rfl, ruz⟩ := vals1 rv
                obtain ⟨bs, r1⟩ := Dp.reads I _ _ _ (rz.dp sep.sub (SeqAt.canLay_of_shaped c.2)) ruz
                obtain ⟨o, its, n, g, oc, dn, dt, rvs, _⟩ := (t.mono sep.sub).obj I
                have hxs : PyData.canLayAll0 ds = true := (shp_tup c.1).1
                obtain ⟨as, h4⟩ := Dp.readsAll I ds _ its (rr.dp sep.sub hxs) rvs
                have hmap : its.map (SeqAt.readOf s.heap) = ds := SeqAt.readsAll_map ds its as hxs h4
                have hn : its.length = ds.length := SeqAt.ReadsAll.length ds its as h4
                have hroom : X.A.units + 1 + min (PyData.depthAll ds) d.depth < cLine := by
                  have h1 := (shp_tup c.1).2
                  have := Nat.min_le_left (PyData.depthAll ds) d.depth
                  omega
                obtain ⟨hjd, _⟩ := List.getElem?_eq_some_iff.mp ey
                have hj : j < its.toArray.size := by
                  rw [List.size_toArray]
                  omega
                have at_ : ∀ (k : Nat) (hm : k < its.toArray.size) (z' : D), ds[k]? = some z' → SeqAt.readOf s.heap its.toArray[k] = z' := by
                  intro k hm z' hz'
                  have hml : k < its.length := by simpa using hm
                  rw [← hmap, List.getElem?_map, List.getElem?_eq_getElem hml] at hz'
                  simpa using hz'
                obtain ⟨cls, dd, data, sls⟩ := o
                simp only at oc dt
                subst oc dt
                refine call_meets PySem.F.slot_tuple_index ⟨_, g, rfl⟩ PySem.F.entry_tuple_index (PySem.F.args_tuple_index_2 _ _)
                  (TI.tuple_indexAt l its.toArray n dd sls uz (fun u => PyData.eqv (SeqAt.readOf s.heap u) d) j hj ?_ ?_) ⟨g, SeqAt.items_eqAt (vs := its.toArray) (show ReadsAll s.heap its.toArray.toList ds as from h4) r1 hxs (SeqAt.canLay_of_shaped c.2) hroom, ?_⟩
                · show PyData.eqv (SeqAt.readOf s.heap its.toArray[j]) d = true
                  rw [at_ j hj y ey]
                  exact e1
                · intro k hm hmj
                  have hmd : k < ds.length := by omega
                  show PyData.eqv (SeqAt.readOf s.heap its.toArray[k]) d = false
                  rw [at_ k hm _ (List.getElem?_eq_getElem hmd)]
                  exact e2 k _ hmj (List.getElem?_eq_getElem hmd)
                · exact ⟨.int (j : Nat), H, I.tok _, ⟨_, rfl⟩, p.rok sep (.int _)⟩
          · exact p.elim
        · exact p.elim
      · exact p.elim
  · exact p.elim
theorem room1 (hu : X.A.units + 100 < cLine) : (nestedKind X.prog X.w).room X.A.in1 := by
  show X.A.units + 1 + 8 < cLine
  omega
theorem m_get {E : XK} (hu : X.A.units + 100 < cLine) : MtM X "dict.get" (rM X.prog X.w X.K E .get2 "dict") := by
  intro pins s σ H x vs v us Q I rx rv hyp
  obtain ⟨F, m, h, a, ws, sep, ra, rs, ek, p⟩ := hyp
  unfold mthW at p
  split at p <;> try cases ‹Mt.get2 = _›
  · rename_i _ k y
    obtain ⟨z, z2, rfl, rz, rz2⟩ := rws2 rs
    split at p
    · rename_i kvs ed
      split at p
      · rename_i kt
        obtain ⟨κ, eκ, _, ks, rfl⟩ := keyT_nk kt
        obtain ⟨d, xs, ep, rfl, eH, ns, nd, rr⟩ := dq_at sep ra ed
        cases rx
        obtain ⟨u1, u2, rfl, ru1, ru2⟩ := vals2 rv
        cases rz with
        | d rz =>
          cases rz with
          | @tup q vs2 _ t rs2 =>
            cases ru1
            have hm := dic_at I sep.sub eH nd rr
            have hk := key_is I sep.sub (.tup t rs2) kt eκ
            refine call_meetsIn PySem.F.slot_dict_get hm.typeIs PySem.F.entry_dict_get (PySem.F.args_dict_get_3 _ _ _) (meetsH_dict_get_default (nestedKind X.prog X.w) d q ns u2) ⟨room1 hu, κ, xs, hk, hm, ?_⟩
            rcases look_at rr eκ with ⟨z1, z2⟩ | ⟨z', b, u, v, z1, z2, z3, z4⟩
            · rw [z2]
              rw [z1] at p
              exact ⟨_, H, I.tok _, ru2, p.here sep rz2⟩
            · rw [z2]
              rw [z1] at p
              exact ⟨v, H, I.tok _, z3, p.here sep z4⟩
      · exact p.elim
    · exact p.elim
  · exact p.elim
theorem m_setdefault {E : XK} (hu : X.A.units + 100 < cLine) : MtM X "dict.setdefault" (rM X.prog X.w X.K E .setdefault "dict") := by
  intro pins s σ H x vs v us Q I rx rv hyp
  obtain ⟨F, m, h, a, ws, sep, ra, rs, ek, p⟩ := hyp
  unfold mthW at p
  split at p <;> try cases ‹Mt.setdefault = _›
  · rename_i _ k y
    obtain ⟨z, z2, rfl, rz, rz2⟩ := rws2 rs
    split at p
    · rename_i n
      split at p
      · rename_i kvs eo
        split at p
        · rename_i c
          obtain ⟨kt, lt⟩ := c
          obtain ⟨κ, eκ, _, ks, rfl⟩ := keyT_nk kt
          cases ra with
          | @r _ d ea =>
            obtain ⟨f, ns, xs, ep, eH, _, nd, rr⟩ := sep.dct ea eo
            have f' := f rfl
            cases rx
            obtain ⟨u1, u2, rfl, ru1, ru2⟩ := vals2 rv
            cases rz with
            | d rz =>
              cases rz with
              | @tup q vs2 _ t rs2 =>
                cases ru1
                have hm := dic_at I sep.sub eH nd rr
                have hk := key_is I sep.sub (.tup t rs2) kt eκ
                refine call_setdefault_heap (hsz := by rw [rr.len]; exact Nat.le_of_lt (Nat.lt_of_lt_of_le lt (by decide))) (room1 hu) hk ns hm (fun pr hp => ?_) fun hn h' hd sb => ?_
                · rcases look_at rr eκ with ⟨z1, z2⟩ | ⟨z', b, u, v, z1, z2, z3, z4⟩
                  · rw [z2] at hp; cases hp
                  · rw [z2] at hp
                    cases hp
                    rw [z1] at p
                    exact ⟨v, H, I.tok _, z3, p.here sep z4⟩
                · rcases look_at rr eκ with ⟨z1, z2⟩ | ⟨z', b, u, v, z1, z2, z3, z4⟩
                  · rw [z1] at p
                    obtain ⟨ep', I'⟩ := tdic_write (tk := s.toks + (nestedKind X.prog X.w).draws κ) I eH hd sb
                    have r2 := put_rel rr nd (.tup t rs2) kt eκ ru2 rz2
                    obtain ⟨t', s'⟩ := sep.setD (ep := ep') ea f' ns (stored_nodup nd) r2
                    exact ⟨_, _, I', ru2, p _ _ _ _ t' s' rz2⟩
                  · rw [z2] at hn; cases hn
        · exact p.elim
      · exact p.elim
    · exact p.elim
  · exact p.elim
theorem m_all {E : XK} (hu : X.A.units + 100 < cLine) {mt : Mt} {T id : String} (e : mtId mt T = some id) : MtM X id (rM X.prog X.w X.K E mt T) := by
  unfold mtId at e
  split at e <;> cases e
  · exact m_append
  · exact m_pop0
  · exact m_pop1
  · exact m_indexL hu
  · exact m_indexT hu
  · exact m_get hu
  · exact m_setdefault hu
/-! ### o[i] = v -/
def rSet (P : Program) (w : World) (K : PySem.W.Frag) : V → V → V → Hp → (Hp → Prop) → Prop := fun x y z H Q => ∃ F m h a b c h', Sep P w K m F h H ∧ RW P w K m F x a ∧ RW P w K m F y b ∧ RW P w K m F z c ∧ setIx a b c h = some h' ∧ ∀ H', Stp F m H F m H' → Sep P w K m F h' H' → Q H'
theorem set_W (hu : X.A.units + 100 < cLine) : PSet X (rSet X.prog X.w X.K) := by
  intro pins s σ H x y z vx vy vz Q I rx ry rz hyp
  obtain ⟨F, m, h, a, b, c, h', sep, ra, rb, rc, e, q⟩ := hyp
  unfold setIx at e
  split at e
  · rename_i n
    cases ra with
    | @r _ l ea =>
      split at e
      · rename_i xs i eo
        split at e
        · rename_i ci
          cases e
          obtain ⟨f, vs, eH, rr⟩ := sep.lst ea eo
          cases rb with
          | d rb =>
            cases rb
            have hl : vs.length = xs.length := rr.length
            obtain ⟨t, s'⟩ := sep.setL ea f (RWs.set rc i.toNat rr)
            refine set_list pins s σ H _ _ _ vx vy vz Q I rx ry rz ⟨l, vs, i, i.toNat, rfl, rfl, eH, ?_, q _ t s'⟩
            unfold ixN
            rw [if_pos ci.1, if_pos (by omega)]
        · cases e
      · rename_i kvs k eo
        split at e
        · rename_i ci
          cases e
          obtain ⟨kt, lt⟩ := ci
          obtain ⟨κ, eκ, _, ks, rfl⟩ := keyT_nk kt
          obtain ⟨f, ns, xs, ep, eH, _, nd, rr⟩ := sep.dct ea eo
          have f' := f rfl
          cases rx
          cases rb with
          | d rb =>
            cases rb with
            | @tup q2 vs2 _ t rs2 =>
              cases ry
              have hm := dic_at I sep.sub eH nd rr
              have hk := key_is I sep.sub (.tup t rs2) kt eκ
              refine wpAny_setItem_heap (hsz := by rw [rr.len]; exact Nat.le_of_lt (Nat.lt_of_lt_of_le lt (by decide))) (room1 hu) hk hm fun h' hd sb => ?_
              obtain ⟨ep', I'⟩ := tdic_write (tk := s.toks + (nestedKind X.prog X.w).draws κ) I eH hd sb
              have r2 := put_rel rr nd (.tup t rs2) kt eκ rz rc
              obtain ⟨t', s'⟩ := sep.setD (ep := ep') ea f' ns (stored_nodup nd) r2
              exact ⟨_, I', q _ t' s'⟩
        · cases e
      · cases e
  · cases e
end
end Rf
/-! What a loop walks. -/
namespace Rf
open PySem PySem.Spec PyProof.Rows L2
section
variable (P : Program) (w : World) (K : PySem.W.Frag)
/-- what a turn yields -/
def ItR (m : List Addr) (F H : Hp) (v : V) : Itm → Prop
  | .one x => RW P w K m F v x
  | .two x y => ∃ p a b, v = .ref p ∧ SqT K H p [a, b] ∧ RW P w K m F a x ∧ RW P w K m F b y
def nxS (s : Src) (i : Nat) (h : Hs) : Option (Option Itm) := match s with
  | .ws xs => some xs[i]?
  | .rf n _ => (nxt n i h).map fun o => o.map .one
def WkAt (J : L2.It) (F : Hp) (m : List Addr) (h : Hs) (H : Hp) (i : Nat) : Option (Option Itm) → Prop
  | some none => J.stop i H
  | some (some x) => J.go i H ∧ ∀ v H', J.yld i H v H' → Stp F m H F m H' ∧ Sep P w K m F h H' ∧ ItR P w K m F H' v x
  | none => True
/-- J walks s -/
def Wk (m : List Addr) (F : Hp) (J : L2.It) (s : Src) : Prop := ∀ (F' : Hp) (m' : List Addr) (h' : Hs) (H' : Hp), (∀ a o, F a = some o → F' a = some o) → (∀ (n : Nat) a, m[n]? = some a → m'[n]? = some a) → Sep P w K m' F' h' H' → ∀ i, WkAt P w K J F' m' h' H' i (nxS s i h')
end
section
variable {P : Program} {w : World} {K : PySem.W.Frag} {F H : Hp} {m : List Addr} {h : Hs}
/-- a dict is walked: from here on it stays as it is -/
theorem Sep.lock (s : Sep P w K m F h H) {n : Nat} {a : Addr} {kvs : List (D × W)} {lk : Bool} {xs : List (NestedKey × Addr × Value)} {ep : Nat} (ea : m[n]? = some a) (eo : h[n]? = some (.dct lk kvs)) (eH : H a = some (tdic P w a xs ep)) (ns : (a == sysModules) = false) (nd : (xs.map (·.1)).Nodup) (r : RKW P w K m F xs kvs) :
    Stp F m H (upd F a (tdic P w a xs ep)) m H ∧ Sep P w K m (upd F a (tdic P w a xs ep)) (h.set n (.dct true kvs)) H := by
  have ext : ∀ b u, F b = some u → upd F a (tdic P w a xs ep) b = some u := fun b u e => by
    by_cases hb : b = a
    · subst hb
      have z := s.sub b u e
      rw [eH] at z
      rw [upd_same]
      exact z
    · rw [upd_ne hb]; exact e
  have ha : a ∈ m := List.mem_of_getElem? ea
  refine ⟨⟨ext, fun _ _ e => e, fun _ _ e _ => e, fun b u e => ?_, fun _ e => .inl e, fun _ o e => ⟨o, e⟩⟩, by rw [List.length_set]; exact s.len, s.nd, fun b u e => ?_, fun k u b e1 e2 => ?_⟩
  · by_cases hb : b = a
    · subst hb; exact .inr (.inr (.inl ha))
    · rw [upd_ne hb] at e; exact .inl e
  · by_cases hb : b = a
    · subst hb
      rw [upd_same] at e
      cases e
      exact eH
    · rw [upd_ne hb] at e; exact s.sub b u e
  · by_cases hk : k = n
    · subst hk
      have hl : k < h.length := (List.getElem?_eq_some_iff.mp eo).1
      rw [List.getElem?_set_self hl] at e1
      rw [ea] at e2
      cases e1; cases e2
      exact ⟨fun z => Bool.noConfusion z, ns, xs, ep, eH, fun _ => upd_same, nd, r.mono ext fun _ _ e => e⟩
    · rw [List.getElem?_set_ne (Ne.symm hk)] at e1
      have hb : b ≠ a := fun z => by
        subst z
        have z1 := List.getElem?_eq_some_iff.mp e2
        have z2 := List.getElem?_eq_some_iff.mp ea
        exact hk ((List.getElem_inj s.nd).mp (z1.2.trans z2.2.symm))
      exact (s.ob k u b e1 e2).mono ext (fun _ _ e => e) rfl fun z => by rw [upd_ne hb]; exact z
theorem RWs.none {vs : List V} {ws : List W} {i : Nat} (r : RWs P w K m F vs ws) (e : ws[i]? = none) : vs.length ≤ i := by
  rw [r.length]
  exact List.getElem?_eq_none_iff.mp e
theorem map_one {ws : List W} {i : Nat} : (ws.map Itm.one)[i]? = (ws[i]?).map Itm.one := List.getElem?_map
/-! ### the walks -/
/-- a list that never changes -/
theorem wk_lst {a : Addr} {vs : List V} {ds : List D} (q : Rd F a (.lst vs)) (r : RDs P w K F vs ds) : Wk P w K m F (Itl K a) (.ws (ds.map fun d => .one (.d d))) := by
  intro F' m' h' H' x y s i
  have q' : SqL K H' a vs := .inl (rd_mono s.sub (rd_mono x q))
  have rr : RWs P w K m' F' vs (ds.map W.d) := rws_d (r.mono x)
  show WkAt P w K (Itl K a) F' m' h' H' i (some ((ds.map fun d => Itm.one (.d d))[i]?))
  have em : (ds.map fun d => Itm.one (.d d))[i]? = ((ds.map W.d)[i]?).map Itm.one := by
    rw [List.getElem?_map, List.getElem?_map, Option.map_map]
    rfl
  rw [em]
  cases e : (ds.map W.d)[i]? with
  | none => exact ⟨vs, q', rr.none e⟩
  | some d =>
    obtain ⟨v, ev, rv⟩ := rr.get e
    refine ⟨⟨vs, v, q', ev⟩, fun v' H'' z => ?_⟩
    obtain ⟨rfl, z⟩ := z
    have z' := z vs q'
    rw [ev] at z'
    cases z'
    exact ⟨Stp.refl, s, rv⟩
theorem wk_tup {a : Addr} {vs : List V} {ws : List W} (q : TF K F a vs) (r : RWs P w K m F vs ws) : Wk P w K m F (Itt K a) (.ws (ws.map .one)) := by
  intro F' m' h' H' x y s i
  have q' : SqT K H' a vs := sqT_mono s.sub (q.mono x).sq
  have rr := r.mono x y
  show WkAt P w K (Itt K a) F' m' h' H' i (some ((ws.map Itm.one)[i]?))
  rw [map_one]
  cases e : ws[i]? with
  | none => exact ⟨vs, q', rr.none e⟩
  | some d =>
    obtain ⟨v, ev, rv⟩ := rr.get e
    refine ⟨⟨vs, v, q', ev⟩, fun v' H'' z => ?_⟩
    obtain ⟨rfl, z⟩ := z
    have z' := z vs q'
    rw [ev] at z'
    cases z'
    exact ⟨Stp.refl, s, rv⟩
/-- a list of the small heap, as it stands at each turn -/
theorem wk_ref {n k : Nat} {a : Addr} (ea : m[n]? = some a) : Wk P w K m F (Itl K a) (.rf n k) := by
  intro F' m' h' H' x y s i
  have ea' := y n a ea
  show WkAt P w K (Itl K a) F' m' h' H' i ((nxt n i h').map fun o => o.map Itm.one)
  unfold nxt
  cases eo : h'[n]? with
  | none => trivial
  | some o =>
    cases o with
    | dct _ _ => trivial
    | ins _ _ => trivial
    | lst ws =>
      obtain ⟨_, vs, eH, rr⟩ := s.lst ea' eo
      have q' : SqL K H' a vs := .inl (.inl eH)
      show WkAt P w K (Itl K a) F' m' h' H' i (some ((ws[i]?).map Itm.one))
      cases e : ws[i]? with
      | none => exact ⟨vs, q', rr.none e⟩
      | some d =>
        obtain ⟨v, ev, rv⟩ := rr.get e
        refine ⟨⟨vs, v, q', ev⟩, fun v' H'' z => ?_⟩
        obtain ⟨rfl, z⟩ := z
        have z' := z vs q'
        rw [ev] at z'
        cases z'
        exact ⟨Stp.refl, s, rv⟩
theorem wk_rng {lo hi : Int} : Wk P w K m F (Itr lo (hi - lo).toNat) (.ws (rngL lo hi)) := by
  intro F' m' h' H' x y s i
  show WkAt P w K (Itr lo (hi - lo).toNat) F' m' h' H' i (some ((rngL lo hi)[i]?))
  unfold rngL
  rw [List.getElem?_map]
  by_cases hlt : i < (hi - lo).toNat
  · rw [List.getElem?_range hlt]
    refine ⟨hlt, fun v' H'' z => ?_⟩
    obtain ⟨rfl, rfl⟩ := z
    exact ⟨Stp.refl, s, .d (.int _)⟩
  · rw [List.getElem?_eq_none (by simpa using hlt)]
    exact Nat.le_of_not_lt hlt
theorem wk_str {z : Str} : Wk P w K m F (Its z) (.ws (z.cps.toList.map fun c => .one (.d (.str ⟨#[c]⟩)))) := by
  intro F' m' h' H' x y s i
  show WkAt P w K (Its z) F' m' h' H' i (some ((z.cps.toList.map fun c => Itm.one (.d (.str ⟨#[c]⟩)))[i]?))
  rw [List.getElem?_map, Array.getElem?_toList]
  have WS := walk_str (z := z)
  by_cases hlt : i < z.cps.size
  · rw [Array.getElem?_eq_getElem hlt]
    refine ⟨WS.goes i H' hlt trivial, fun v' H'' q => ?_⟩
    obtain ⟨rfl, c, ec, rfl⟩ := WS.yields i H' v' H'' hlt trivial q
    rw [Array.getElem?_eq_getElem hlt] at ec
    cases ec
    exact ⟨Stp.refl, s, .d (.str _)⟩
  · rw [Array.getElem?_eq_none (Nat.le_of_not_lt hlt)]
    exact Nat.le_of_not_lt hlt
/-- new pairs -/
theorem pair_lay (s : Sep P w K m F h H) {p : Addr} {a b : V} {x y : W} (n : H p = none) (ra : RW P w K m F a x) (rb : RW P w K m F b y) : Stp F m H F m (upd H p (.tup [a, b])) ∧ Sep P w K m F h (upd H p (.tup [a, b])) ∧ ItR P w K m F (upd H p (.tup [a, b])) (.ref p) (.two x y) := by
  obtain ⟨t, s'⟩ := s.layH (o := .tup [a, b]) n
  exact ⟨t, s', p, a, b, rfl, .inl (.inl upd_same), ra, rb⟩
theorem wk_enum {a : Addr} {vs : List V} {ds : List D} (q : Rd F a (.lst vs)) (r : RDs P w K F vs ds) : Wk P w K m F (Ite K a) (.ws (enuL (ds.map W.d))) := by
  intro F' m' h' H' x y s i
  have q' : SqL K H' a vs := .inl (rd_mono s.sub (rd_mono x q))
  have rr : RWs P w K m' F' vs (ds.map W.d) := rws_d (r.mono x)
  show WkAt P w K (Ite K a) F' m' h' H' i (some ((enuL (ds.map W.d))[i]?))
  have WE := walk_enum (K := K) (a := a) (xs := vs)
  have enu : ∀ ws : List W, (enuL ws)[i]? = (ws[i]?).map fun u => Itm.two (.d (.int (i : Nat))) u := by
    intro ws
    unfold enuL
    rw [List.getElem?_map, List.getElem?_zipIdx, Option.map_map]
    cases ws[i]? <;> simp
  rw [enu]
  cases e : (ds.map W.d)[i]? with
  | none =>
    have l := rr.none e
    exact ⟨vs, q', l⟩
  | some d =>
    obtain ⟨v, ev, rv⟩ := rr.get e
    have hlt : i < vs.length := (List.getElem?_eq_some_iff.mp ev).1
    refine ⟨WE.goes i H' hlt q', fun v' H'' z => ?_⟩
    obtain ⟨p, a1, b1, rfl, np, rfl, e1, e2⟩ := WE.yields i H' v' H'' hlt q' z
    cases e1
    have e3 : vs[i]? = some b1 := e2
    rw [ev] at e3
    cases e3
    exact pair_lay s np (.d (.int _)) rv
theorem zip_at {xs ys : List W} {i : Nat} : (List.zipWith Itm.two xs ys)[i]? = match xs[i]?, ys[i]? with
    | some x, some y => some (.two x y)
    | _, _ => none := by
  rw [List.getElem?_zipWith]
  cases xs[i]? <;> cases ys[i]? <;> rfl
theorem wk_zipL {a b : Addr} {vs us : List V} {ds es : List D} (q : Rd F a (.lst vs)) (r : RDs P w K F vs ds) (q2 : Rd F b (.lst us)) (r2 : RDs P w K F us es) : Wk P w K m F (Itz K a b) (.ws (List.zipWith .two (ds.map W.d) (es.map W.d))) := by
  intro F' m' h' H' x y s i
  have q' : SqL K H' a vs := .inl (rd_mono s.sub (rd_mono x q))
  have q2' : SqL K H' b us := .inl (rd_mono s.sub (rd_mono x q2))
  have rr : RWs P w K m' F' vs (ds.map W.d) := rws_d (r.mono x)
  have rr2 : RWs P w K m' F' us (es.map W.d) := rws_d (r2.mono x)
  show WkAt P w K (Itz K a b) F' m' h' H' i (some ((List.zipWith Itm.two (ds.map W.d) (es.map W.d))[i]?))
  rw [zip_at]
  cases e : (ds.map W.d)[i]? with
  | none => exact ⟨vs, us, q', q2', .inl (rr.none e)⟩
  | some d =>
    cases e2 : (es.map W.d)[i]? with
    | none => exact ⟨vs, us, q', q2', .inr (rr2.none e2)⟩
    | some d2 =>
      obtain ⟨v, ev, rv⟩ := rr.get e
      obtain ⟨v2, ev2, rv2⟩ := rr2.get e2
      refine ⟨⟨vs, us, v, v2, q', q2', ev, ev2⟩, fun v' H'' z => ?_⟩
      obtain ⟨p, a1, b1, rfl, np, rfl, e1, e3⟩ := z
      have z1 := e1 vs q'
      have z2 := e3 us q2'
      rw [ev] at z1
      rw [ev2] at z2
      cases z1
      cases z2
      exact pair_lay s np rv rv2
theorem wk_zipT {a b : Addr} {vs us : List V} {ds es : List D} (q : TF K F a vs) (r : RDs P w K F vs ds) (q2 : TF K F b us) (r2 : RDs P w K F us es) : Wk P w K m F (RZ.ItzT K a b) (.ws (List.zipWith .two (ds.map W.d) (es.map W.d))) := by
  intro F' m' h' H' x y s i
  have q' : SqT K H' a vs := sqT_mono s.sub (q.mono x).sq
  have q2' : SqT K H' b us := sqT_mono s.sub (q2.mono x).sq
  have rr : RWs P w K m' F' vs (ds.map W.d) := rws_d (r.mono x)
  have rr2 : RWs P w K m' F' us (es.map W.d) := rws_d (r2.mono x)
  show WkAt P w K (RZ.ItzT K a b) F' m' h' H' i (some ((List.zipWith Itm.two (ds.map W.d) (es.map W.d))[i]?))
  rw [zip_at]
  cases e : (ds.map W.d)[i]? with
  | none => exact ⟨vs, us, q', q2', .inl (rr.none e)⟩
  | some d =>
    cases e2 : (es.map W.d)[i]? with
    | none => exact ⟨vs, us, q', q2', .inr (rr2.none e2)⟩
    | some d2 =>
      obtain ⟨v, ev, rv⟩ := rr.get e
      obtain ⟨v2, ev2, rv2⟩ := rr2.get e2
      refine ⟨⟨vs, us, v, v2, q', q2', ev, ev2⟩, fun v' H'' z => ?_⟩
      obtain ⟨p, a1, b1, rfl, np, rfl, e1, e3⟩ := z
      have z1 := e1 vs q'
      have z2 := e3 us q2'
      rw [ev] at z1
      rw [ev2] at z2
      cases z1
      cases z2
      exact pair_lay s np rv rv2
end
/-! ### dicts, told raw -/
/-- the keys of the dict at d -/
def Itdk (P : Program) (w : World) (d : Addr) (xs : List (NestedKey × Addr × Value)) (ep : Nat) : L2.It :=
  ⟨fun i H => H d = some (tdic P w d xs ep) ∧ i < xs.length, fun i H x H' => H' = H ∧ ∃ κ b u, xs[i]? = some (κ, b, u) ∧ x = .ref b, fun i H => H d = some (tdic P w d xs ep) ∧ xs.length ≤ i⟩
/-- its values -/
def Itdv (P : Program) (w : World) (d : Addr) (xs : List (NestedKey × Addr × Value)) (ep : Nat) (vs : List V) : L2.It :=
  ⟨fun i H => H d = some (tdic P w d xs ep) ∧ i < xs.length, fun i H x H' => H' = H ∧ vs[i]? = some x, fun i H => H d = some (tdic P w d xs ep) ∧ xs.length ≤ i⟩
section
variable {X : Cx} {pins : List (Addr × Obj)} {s : Shared} {σ : L2.St} {H : Hp}
theorem raw_at (I : L2.Inv X pins σ H s) {d : Addr} {xs : List (NestedKey × Addr × Value)} {ep : Nat} (e : H d = some (tdic X.prog X.w d xs ep)) : s.heap.DictRaw d (xs.map (entryOfKey (nestedKind X.prog X.w))).toArray ep := by
  obtain ⟨⟨o, es, g, ex, dt, el⟩, _, _⟩ := I.hok d _ e
  refine ⟨o, g, ex, ?_⟩
  rw [dt, ← el]
theorem turn_dk {P : Program} {w : World} {K : PySem.W.Frag} {tg : Expr} (d it : Addr) (xs : List (NestedKey × Addr × Value)) (ep : Nat) (hne : d ≠ it) :
    Turn P w K tg (Itdk P w d xs ep) [it] it (fun i h => h.IsKeyIter it d i xs.length ep) where
  mem := by simp
  obj := fun i h st b hb => by
    have e : b = it := by simpa using hb
    subst e
    obtain ⟨o, e, c, dd⟩ := st
    exact ⟨o, e, fun v z => by rw [dd] at z; cases z⟩
  keep := fun i h h' st k => st.at fun o e => k it (by simp) o e
  item := by
    intro X hP hw hK hc i pins s σ H E I hf st hg
    subst hP hw hK
    obtain ⟨eH, hi⟩ := hg
    obtain ⟨f0, f1, f2, f3, f4, f5⟩ := hf it (by simp)
    have hr := raw_at I eH
    have hz : (xs.map (entryOfKey (nestedKind X.prog X.w))).toArray.size = xs.length := by simp
    refine wpAny_pyNext_keys_item_raw (by rw [hz]; exact st) hr (by rw [hz]; exact hi) fun h' st' sb => ?_
    have I1 : L2.Inv X pins σ H { s with heap := h' } := I.turned (t' := s.toks) (fun b o hb e => (sb.2 b hb).trans e) f0 f1 f3 f4 f5
    rw [hz] at st'
    obtain ⟨o, e, c, dd⟩ := id st'
    refine ⟨_, rfl, go_of (s := { s with heap := h' }) e c dd (by decide) ⟨.ref xs[i].2.1, H, I1, ?_, ⟨rfl, xs[i].1, xs[i].2.1, xs[i].2.2, by simp [hi], rfl⟩, st', fun b hb => (hf b hb).1⟩⟩
    simp [entryOfKey, L2.RelV]
  done := by
    intro X hP hw hK hc i pins s σ H E I hf st hg
    subst hP hw hK
    obtain ⟨eH, hi⟩ := hg
    obtain ⟨f0, f1, f2, f3, f4, f5⟩ := hf it (by simp)
    have hr := raw_at I eH
    have hz : (xs.map (entryOfKey (nestedKind X.prog X.w))).toArray.size = xs.length := by simp
    exact wpAny_pyNext_keys_end_raw (I.ok.hd hc) (by rw [hz]; exact st) hr (by rw [hz]; exact hi) fun h' eb => ⟨rfl, I.turned (t' := s.toks) (fun b o hb e => eb b o hb e) f0 f1 f3 f4 f5⟩
  self := fun _ _ _ _ _ st h => wpAny_pyIter_keyiter st h
theorem turn_dv {P : Program} {w : World} {K : PySem.W.Frag} {tg : Expr} (d it : Addr) (xs : List (NestedKey × Addr × Value)) (ep : Nat) (vs : List V) (hv : Vals vs (xs.map fun x => x.2.2)) :
    Turn P w K tg (Itdv P w d xs ep vs) [it] it (fun i h => h.IsValIter it d i xs.length ep) where
  mem := by simp
  obj := fun i h st b hb => by
    have e : b = it := by simpa using hb
    subst e
    obtain ⟨o, e, c, dd⟩ := st
    exact ⟨o, e, fun v z => by rw [dd] at z; cases z⟩
  keep := fun i h h' st k => st.at fun o e => k it (by simp) o e
  item := by
    intro X hP hw hK hc i pins s σ H E I hf st hg
    subst hP hw hK
    obtain ⟨eH, hi⟩ := hg
    obtain ⟨f0, f1, f2, f3, f4, f5⟩ := hf it (by simp)
    have hr := raw_at I eH
    have hz : (xs.map (entryOfKey (nestedKind X.prog X.w))).toArray.size = xs.length := by simp
    refine wpAny_pyNext_values_item_raw (by rw [hz]; exact st) hr (by rw [hz]; exact hi) fun h' st' sb => ?_
    have I1 : L2.Inv X pins σ H { s with heap := h' } := I.turned (t' := s.toks) (fun b o hb e => (sb.2 b hb).trans e) f0 f1 f3 f4 f5
    rw [hz] at st'
    obtain ⟨o, e, c, dd⟩ := id st'
    have hlv : vs.length = xs.length := by
      have := hv.length
      rw [List.length_map] at this
      exact this
    have hiv : i < vs.length := by omega
    obtain ⟨u, hu, rv⟩ := hv.get (List.getElem?_eq_getElem hiv)
    rw [List.getElem?_map, List.getElem?_eq_getElem hi] at hu
    cases hu
    refine ⟨_, rfl, go_of (s := { s with heap := h' }) e c dd (by decide) ⟨vs[i], H, I1, ?_, ⟨rfl, List.getElem?_eq_getElem hiv⟩, st', fun b hb => (hf b hb).1⟩⟩
    simpa [entryOfKey] using rv
  done := by
    intro X hP hw hK hc i pins s σ H E I hf st hg
    subst hP hw hK
    obtain ⟨eH, hi⟩ := hg
    obtain ⟨f0, f1, f2, f3, f4, f5⟩ := hf it (by simp)
    have hr := raw_at I eH
    have hz : (xs.map (entryOfKey (nestedKind X.prog X.w))).toArray.size = xs.length := by simp
    exact wpAny_pyNext_values_end_raw (I.ok.hd hc) (by rw [hz]; exact st) hr (by rw [hz]; exact hi) fun h' eb => ⟨rfl, I.turned (t' := s.toks) (fun b o hb e => eb b o hb e) f0 f1 f3 f4 f5⟩
  self := fun _ _ _ _ _ st h => wpAny_pyIter_valiter st h
end
section
variable {P : Program} {w : World} {K : PySem.W.Frag} {F H : Hp} {m : List Addr} {h : Hs}
theorem RKW.get : ∀ {xs : List (NestedKey × Addr × Value)} {kvs : List (D × W)} {i : Nat} {kv : D × W}, RKW P w K m F xs kvs → kvs[i]? = some kv → ∃ κ b u, xs[i]? = some (κ, b, u) ∧ RD P w K F (.ref b) kv.1
  | _, _, i, kv, .nil, e => by simp at e
  | _, _, 0, kv, .cons a kt b' c d r, e => by
    simp only [List.getElem?_cons_zero, Option.some.injEq] at e
    subst e
    exact ⟨_, _, _, List.getElem?_cons_zero, a⟩
  | _, _, i + 1, kv, .cons a kt b' c d r, e => by
    simp only [List.getElem?_cons_succ] at e ⊢
    exact RKW.get r e
theorem RKW.vals : ∀ {xs : List (NestedKey × Addr × Value)} {kvs : List (D × W)}, RKW P w K m F xs kvs → ∃ vs, Vals vs (xs.map fun x => x.2.2) ∧ RWs P w K m F vs (kvs.map fun kv => kv.2)
  | _, _, .nil => ⟨[], .nil, .nil⟩
  | _, _, .cons a kt b' c d r => by
    obtain ⟨vs, h1, h2⟩ := RKW.vals r
    exact ⟨_ :: vs, .cons c h1, .cons d h2⟩
theorem wk_dk {d : Addr} {xs : List (NestedKey × Addr × Value)} {ep : Nat} {kvs : List (D × W)} (q : F d = some (tdic P w d xs ep)) (r : RKW P w K m F xs kvs) : Wk P w K m F (Itdk P w d xs ep) (.ws (kvs.map fun kv => .one (.d kv.1))) := by
  intro F' m' h' H' x y s i
  have q' : H' d = some (tdic P w d xs ep) := s.sub _ _ (x _ _ q)
  have rr := r.mono x y
  show WkAt P w K (Itdk P w d xs ep) F' m' h' H' i (some ((kvs.map fun kv => Itm.one (.d kv.1))[i]?))
  rw [List.getElem?_map]
  cases e : kvs[i]? with
  | none => exact ⟨q', by rw [rr.len]; exact List.getElem?_eq_none_iff.mp e⟩
  | some kv =>
    obtain ⟨κ, b, u, ex, rd⟩ := rr.get e
    refine ⟨⟨q', (List.getElem?_eq_some_iff.mp ex).1⟩, fun v' H'' z => ?_⟩
    obtain ⟨rfl, κ', b', u', ez, rfl⟩ := z
    rw [ex] at ez
    cases ez
    exact ⟨Stp.refl, s, .d rd⟩
theorem wk_dv {d : Addr} {xs : List (NestedKey × Addr × Value)} {ep : Nat} {kvs : List (D × W)} {vs : List V} (q : F d = some (tdic P w d xs ep)) (r : RKW P w K m F xs kvs) (rv : RWs P w K m F vs (kvs.map fun kv => kv.2)) :
    Wk P w K m F (Itdv P w d xs ep vs) (.ws (kvs.map fun kv => .one kv.2)) := by
  intro F' m' h' H' x y s i
  have q' : H' d = some (tdic P w d xs ep) := s.sub _ _ (x _ _ q)
  have rr := r.mono x y
  have rr2 := rv.mono x y
  show WkAt P w K (Itdv P w d xs ep vs) F' m' h' H' i (some ((kvs.map fun kv => Itm.one kv.2)[i]?))
  rw [List.getElem?_map]
  cases e : kvs[i]? with
  | none => exact ⟨q', by rw [rr.len]; exact List.getElem?_eq_none_iff.mp e⟩
  | some kv =>
    obtain ⟨κ, b, u, ex, rd⟩ := rr.get e
    obtain ⟨v, ev, rv'⟩ := rr2.get (show (kvs.map fun kv => kv.2)[i]? = some kv.2 by rw [List.getElem?_map, e]; rfl)
    refine ⟨⟨q', (List.getElem?_eq_some_iff.mp ex).1⟩, fun v' H'' z => ?_⟩
    obtain ⟨rfl, ez⟩ := z
    rw [ev] at ez
    cases ez
    exact ⟨Stp.refl, s, rv'⟩
end
section
variable {X : Cx} {pins : List (Addr × Obj)} {s : Shared} {σ : L2.St} {H F : Hp} {m : List Addr} {h : Hs} {tg : Expr} {R : L2.It → Hp → Prop} {E : XK}
/-- iter(x) -/
theorem iter_any {x : V} {a : W} {u : Value} (I : L2.Inv X pins σ H s) (sep : Sep X.prog X.w X.K m F h H) (ra : RW X.prog X.w X.K m F x a) (ru : L2.RelV x u) (p : Post X.prog X.w X.K (Wk X.prog X.w X.K) E F m H (srcW a h) R) :
    wpAny (model X.prog X.w) X.A (pyIter u) (PIE X pins σ tg R) X.xe s := by
  have lst : ∀ {a : Addr} {vs : List V}, u = .ref a → Rd H a (.lst vs) → R (Itl X.K a) H → wpAny (model X.prog X.w) X.A (pyIter u) (PIE X pins σ tg R) X.xe s := fun {a vs} e q r => by
    subst e
    obtain ⟨its, rv, pl, _⟩ := I.list (.inl q)
    exact wpAny_pyIter_list pl.isList (pi_one (tk := s.toks) I _ (turn_list a _) ⟨_, Heap.get?_push_size _ rfl, rfl, rfl⟩ r)
  have tup : ∀ {a : Addr} {vs : List V}, u = .ref a → TF X.K F a vs → R (Itt X.K a) H → wpAny (model X.prog X.w) X.A (pyIter u) (PIE X pins σ tg R) X.xe s := fun {a vs} e q r => by
    subst e
    obtain ⟨its, rv, pl, _⟩ := I.tuple (sqT_mono sep.sub q.sq)
    exact wpAny_pyIter_tuple (show s.heap.IsTuple a its.toArray from pl) (pi_one (tk := s.toks) I _ (turn_tuple a _) ⟨_, Heap.get?_push_size _ rfl, rfl, rfl⟩ r)
  have dct : ∀ {a : Addr} {xs : List (NestedKey × Addr × Value)} {ep : Nat}, u = .ref a → (a == sysModules) = false → H a = some (tdic X.prog X.w a xs ep) → R (Itdk X.prog X.w a xs ep) H → wpAny (model X.prog X.w) X.A (pyIter u) (PIE X pins σ tg R) X.xe s := fun {a xs ep} e ns q r => by
    subst e
    have hr := raw_at I q
    have hz : (xs.map (entryOfKey (nestedKind X.prog X.w))).toArray.size = xs.length := by simp
    have hne : a ≠ s.heap.objs.size := by
      obtain ⟨o, g, _⟩ := id hr
      exact Nat.ne_of_lt (Heap.lt_size g)
    refine wpAny_pyIter_dict_raw ns hr (pi_one (tk := s.toks) I _ (turn_dk a _ xs ep hne) ⟨_, Heap.get?_push_size _ rfl, rfl, ?_⟩ r)
    rw [hz]
    rfl
  cases ra with
  | d ra =>
    cases ra with
    | non => exact p.elim
    | bl _ => exact p.elim
    | int _ => exact p.elim
    | str z =>
      obtain ⟨t, rfl⟩ := ru
      have r : R (Its z) H := p _ _ _ _ Stp.refl sep wk_str
      cases ha : z.cps.all (· < 128)
      · exact wpAny_pyIter_wide ha (pi_one (tk := s.toks) I _ (turn_str _ z t "str_iterator" (.inr rfl)) ⟨_, Heap.get?_push_size _ rfl, rfl, rfl⟩ r)
      · exact wpAny_pyIter_ascii ha (pi_one (tk := s.toks) I _ (turn_str _ z t "str_ascii_iterator" (.inl rfl)) ⟨_, Heap.get?_push_size _ rfl, rfl, rfl⟩ r)
    | @lst b vs ds q rr =>
      cases ru
      have e : srcW (.d (.list ds)) h = .ok (.ws (ds.map fun d => .one (.d d))) h := by
        simp only [srcW, sq, List.map_map]
        rfl
      rw [e] at p
      exact lst rfl (rd_mono sep.sub q) (p _ _ _ _ Stp.refl sep (wk_lst q rr))
    | @tup b vs ds t rr =>
      cases ru
      exact tup rfl t (p _ _ _ _ Stp.refl sep (wk_tup t (rws_d rr)))
    | @dct b xs ep kvs q ns nd rr =>
      cases ru
      have e : srcW (.d (.dict kvs)) h = .ok (.ws ((kvs.map fun kv => (kv.1, W.d kv.2)).map fun kv => .one (.d kv.1))) h := by
        simp only [srcW, List.map_map]
        rfl
      rw [e] at p
      exact dct rfl ns (sep.sub _ _ q) (p _ _ _ _ Stp.refl sep (wk_dk q (rk_w rr)))
  | @r n b em =>
    cases ru
    obtain ⟨o, eo, ob⟩ := sep.get em
    simp only [srcW, eo] at p
    cases o with
    | lst ws =>
      obtain ⟨_, vs, eH, rr⟩ := ob
      exact lst rfl (.inl eH) (p _ _ _ _ Stp.refl sep (wk_ref em))
    | ins _ _ => exact p.elim
    | dct lk kvs =>
      obtain ⟨_, ns, xs, ep, eH, _, nd, rr⟩ := ob
      obtain ⟨t, s'⟩ := sep.lock em eo eH ns nd rr
      exact dct rfl ns eH (p _ _ _ _ t s' (wk_dk upd_same (rr.mono t.ext t.pre)))
end
end Rf
/-! What is checked of a text; the context of a run. -/
namespace Rf
open PySem PySem.Spec PyProof.Rows L2
/-! ### the trees -/
theorem star_syn (e : E) (es : List Expr) (env : PySem.Env) : starEach (e.syn :: es) env = (false, eval e.syn env) :: starEach es env := by
  cases e <;> rfl
theorem fold_syn (e : E) (env : PySem.Env) (x : Value) : foldedSetIterable e.syn env x = pure x := by
  cases e <;> rfl
theorem beh_syn (o : CmpOp) (e : E) : behindInMarks o e.syn = false := by
  cases e <;> rfl
theorem marks_syn (o o' : CmpOp) (b c : E) : lastMarks [o, o'] [b.syn, c.syn] = false := by
  show behindInMarks o' c.syn = false
  exact beh_syn o' c
theorem plain_syn : ∀ (es : Es) (pos : Pos) (env : PySem.Env), (backTo pos (starEach es.syn env)).any (·.1) = false
  | .nil, _, _ => rfl
  | .cons a r, pos, env => by
    show (backTo pos (starEach (a.syn :: r.syn) env)).any (·.1) = false
    rw [star_syn]
    show (false || (backTo pos (starEach r.syn env)).any (·.1)) = false
    rw [plain_syn r pos env]
    rfl
theorem ix_syn (e : E) : PlainIx e.syn := by
  intro o i
  cases e <;> rfl
theorem kw_all : ∀ (ks : Ks) (pos : Pos) (env : PySem.Env), (backToKw pos (keywordEach ks.syn env)).all (·.1.isSome) = true
  | .nil, _, _ => rfl
  | .cons n a p r, pos, env => by
    show (true && (backToKw pos (keywordEach r.syn env)).all (·.1.isSome)) = true
    rw [kw_all r pos env]
    rfl
theorem kw_any : ∀ (ks : Ks) (pos : Pos) (env : PySem.Env), (backToKw pos (keywordEach ks.syn env)).any (·.1.isNone) = false
  | .nil, _, _ => rfl
  | .cons n a p r, pos, env => by
    show (false || (backToKw pos (keywordEach r.syn env)).any (·.1.isNone)) = false
    rw [kw_any r pos env]
    rfl
def Ks.names : Ks → List Str
  | .nil => []
  | .cons n _ _ r => n :: r.names
def Es.len : Es → Nat
  | .nil => 0
  | .cons _ r => r.len + 1
theorem kw_names : ∀ (ks : Ks) (pos : Pos) (env : PySem.Env), (backToKw pos (keywordEach ks.syn env)).filterMap (·.1) = ks.names
  | .nil, _, _ => rfl
  | .cons n a p r, pos, env => by
    show n :: (backToKw pos (keywordEach r.syn env)).filterMap (·.1) = n :: r.names
    rw [kw_names r pos env]
/-- what may stand before a dot -/
def dotB : E → Bool
  | .cal _ x _ _ _ _ _ => !(x == ("super" : Str))
  | .new _ x _ _ _ _ _ => !(x == ("super" : Str))
  | _ => true
theorem base_call (x : Str) (es : List Expr) (ks : List Keyword) (p0 p : Pos) (f : Str) (env : PySem.Env) (h : (!(x == ("super" : Str))) = true) (whole : Sem Value) : attributeBase (.Call (.Name x p0) es ks p) f env whole = whole := by
  cases es with
  | cons _ _ => rfl
  | nil =>
    cases ks with
    | cons _ _ => rfl
    | nil =>
      unfold attributeBase
      have h' : (x != ("super" : Str)) = true := h
      simp only [h', Bool.true_or, if_true]
theorem base_syn (e : E) (f : Str) (env : PySem.Env) (h : dotB e = true) : attributeBase e.syn f env (eval e.syn env) = eval e.syn env := by
  cases e with
  | cal g x es ks ord p0 p => exact base_call x es.syn ks.syn p0 p f env h _
  | new g x es ks ord p0 p => exact base_call x es.syn ks.syn p0 p f env h _
  | «bif» b m es p0 p => exact base_call b.name es.syn [] p0 p f env (by cases b <;> decide) _
  | _ => rfl
/-- its test is its value's truth -/
def valB : E → Bool
  | .nott _ _ => false
  | .and_ _ _ => false
  | .or_ _ _ => false
  | .cmp _ _ _ _ => false
  | .chn _ _ _ _ _ _ => false
  | .ite _ _ _ _ => false
  | _ => true
theorem true_syn (e : E) (env : PySem.Env) (h : valB e = true) (whole : Sem Value) : isTrue e.syn env whole = (do let v ← whole; standAt e.syn.pos; holding [v] (truthy v)) := by
  cases e <;> first | rfl | cases h
mutual
/-- the slots that a target writes -/
def tvs : Tg → List Nat
  | .var i _ _ => [i]
  | .tup ts _ _ => tvss ts
  | .sub _ _ _ => []
  | .fld _ _ _ => []
def tvss : Tgs → List Nat
  | .nil => []
  | .cons t r => tvs t ++ tvss r
end
/-! ### the checks -/
def ownB (vs us : List Nat) : Bool := vs.all fun i => decide (i ∈ us)
structure Kx where
  N : List Str
  sc : Scope
  fc : Str → Bool
  calm : Bool
  top : Bool
  xv : Option Nat
def nameB (x : Str) : Bool := !(x == ("__debug__" : Str)) && (!(x == ("__classdict__" : Str)) && !(x == ("__name__" : Str)))
def visB (k : Kx) (i : Nat) (x : Str) : Bool := decide (k.N[i]? = some x) && (nameB x && (decide (k.sc.names.lookup x = some .local) || (decide (k.sc.names.lookup x = some .cell) || decide (k.sc.names.lookup x = some .free))))
def locB (k : Kx) (i : Nat) (x : Str) : Bool := decide (k.N[i]? = some x) && (decide (k.sc.names.lookup x = some .local) || (decide (k.sc.names.lookup x = some .cell) && k.fc x))
def glB (k : Kx) (x : Str) : Bool := nameB x && decide (k.sc.names.lookup x = some .globalImplicit)
/-- the scope of a comprehension's block within sc -/
def blkSc (scope sc : Scope) : Scope := { scope with names := scope.names.map fun (n, k) => if (k == .free && sc.kind == .function && sc.names.lookup n == some .cell) then (n, .cell) else (n, k) }
def Kx.blk (k : Kx) (scope : Scope) : Kx := { k with sc := blkSc scope k.sc, fc := fun x => scope.names.lookup x == some .cell, top := false, xv := none }
def freeB (T : Tab) (k : Kx) (x : Str) : Bool := glB k x && T.frees.contains x
def Bi.hot : Bi → Bool
  | .len => true | .tuple => true | .list => true | .int => true | .abs => true | .sorted => true
  | _ => false
def Bi.ar : Bi → Nat
  | .max2 => 2 | .min2 => 2
  | _ => 1
def kwB (T : Tab) (fe : FEnt) (i j : Nat) (ks : List Str) (ord : List Nat) : Bool := if ks.isEmpty = true then decide (j = fe.ps.length) && ord.isEmpty else decide ((i, j, ks, ord) ∈ T.kws) && (decide (j + ord.length = fe.ps.length) && ord.all fun o => decide (o < ks.length))
def callB (T : Tab) (k : Kx) (cls : Option Str) (nm : Str) (i : Nat) (n : Nat) (ks : List Str) (ord : List Nat) : Bool := k.calm && (match T.fns[i]? with
  | some fe => decide (fe.cls = cls) && (decide (nm = (if cls.isSome = true then fe.name else fe.glob)) && kwB T fe i (n + (if cls.isSome = true then 1 else 0)) ks ord)
  | none => false)
def newB (T : Tab) (k : Kx) (nm : Str) (i : Nat) (n : Nat) (ks : List Str) (ord : List Nat) : Bool := k.calm && (match T.cls[i]? with
  | some ce => decide (ce.name = nm) && (match T.fns[ce.init]? with
    | some fe => decide (fe.cls = some nm) && (decide (fe.name = "__init__") && (!fe.frz && kwB T fe ce.init (n + 1) ks ord))
    | none => false)
  | none => false)
mutual
def okE (T : Tab) : Kx → E → Bool
  | k, .var i x _ => visB k i x
  | _, .int _ _ _ => true
  | _, .str _ _ _ => true
  | _, .bl _ _ _ => true
  | _, .non _ _ => true
  | k, .glo x _ => glB k x
  | k, .bin _ _ a b _ => okE T k a && okE T k b
  | k, .neg a _ => okE T k a
  | k, .nott a _ => okE T k a
  | k, .and_ es _ => okEs T k es
  | k, .or_ es _ => okEs T k es
  | k, .cmp _ a b _ => okE T k a && okE T k b
  | k, .chn _ _ a b c _ => okE T k a && (okE T k b && okE T k c)
  | k, .ite c a b _ => okE T k c && (okE T k a && okE T k b)
  | k, .tup es _ _ => okEs T k es
  | k, .lst _ es _ => okEs T k es
  | _, .dic _ => true
  | k, .sub a b _ => okE T k a && okE T k b
  | k, .slc _ a lo hi _ _ => okE T k a && (okO T k lo && okO T k hi)
  | k, .rev _ a _ _ _ _ _ => okE T k a
  | k, .fld a _ _ => dotB a && okE T k a
  | k, .exf i x _ _ _ => visB k i x && decide (k.xv = some i)
  | k, .cal f x es ks ord _ _ => glB k x && (callB T k none x f es.len ks.names ord && (okEs T k es && okK T k ks))
  | k, .mcl f c m a es ks ord p1 p => (dotB a && (p1.endLine == p.line && decide (es.len + ks.names.length < 29))) && (callB T k (some c) m f es.len ks.names ord && (okE T k a && (okEs T k es && okK T k ks)))
  | k, .new c x es ks ord _ _ => glB k x && (newB T k x c es.len ks.names ord && (okEs T k es && okK T k ks))
  | k, .bif b _ es _ _ => freeB T k b.name && ((k.calm || b.hot) && (decide (es.len = b.ar) && okEs T k es))
  | k, .isi a t _ _ _ => freeB T k "isinstance" && (freeB T k t.name && okE T k a)
  | k, .leni f c a _ _ => freeB T k "len" && (callB T k (some c) "__len__" f 0 [] [] && okE T k a)
  | k, .mth _ a es p1 p => dotB a && (p1.endLine == p.line && (decide (es.len < 30) && (okE T k a && okEs T k es)))
  | k, .lc _ elt tg it cs own sc _ => k.calm && (blkC k.N k.sc sc own && (ownB (tvs tg) (own.map (·.2)) && (okI T k tg it && (okT T (k.blk sc) tg && (okO T (k.blk sc) cs && okE T (k.blk sc) elt)))))
  | k, .lc2 _ elt tg it cs tg' it' cs' own vs' sc _ => k.calm && (blkC k.N k.sc sc own && ((ownB vs' (own.map (·.2)) && (ownB (tvs tg) (own.map (·.2)) && ownB (tvs tg') vs')) && (okI T k tg it && (okT T (k.blk sc) tg && (okO T (k.blk sc) cs &&
      (okI T (k.blk sc) tg' it' && (okT T (k.blk sc) tg' && (okO T (k.blk sc) cs' && okE T (k.blk sc) elt))))))))
def okEs (T : Tab) : Kx → Es → Bool
  | _, .nil => true
  | k, .cons a r => okE T k a && okEs T k r
def okK (T : Tab) : Kx → Ks → Bool
  | _, .nil => true
  | k, .cons _ a _ r => okE T k a && okK T k r
def okO (T : Tab) : Kx → Oe → Bool
  | _, .none => true
  | k, .some a => okE T k a
def okI (T : Tab) : Kx → Tg → It → Bool
  | k, _, .exp a => okE T k a
  | k, _, .rng es _ _ => freeB T k "range" && ((decide (es.len = 1) || decide (es.len = 2)) && okEs T k es)
  | k, tg, .enu a _ _ => freeB T k "enumerate" && ((match tg with
    | .tup _ _ _ => true
    | _ => false) && okE T k a)
  | k, tg, .zip a b _ _ => freeB T k "zip" && ((match tg with
    | .tup _ _ _ => true
    | _ => false) && (okE T k a && okE T k b))
  | k, _, .vals a p1 p => dotB a && (p1.endLine == p.line && okE T k a)
  | _, _, .items _ _ _ => false
def okT (T : Tab) : Kx → Tg → Bool
  | k, .var i x _ => locB k i x
  | k, .tup ts _ _ => k.calm && okTs T k ts
  | k, .sub a b _ => okE T k a && okE T k b
  | k, .fld a _ _ => okE T k a
def okTs (T : Tab) : Kx → Tgs → Bool
  | _, .nil => true
  | k, .cons t r => okT T k t && okTs T k r
end
/-! ### the context -/
/-- the exception that is handled: its slot, its address, its class, its dict -/
abbrev HX := Option (Nat × Addr × Addr × Addr)
section
variable (P : Program) (w : World) (K : PySem.W.Frag) (hx : HX) (m : List Addr) (F : Hp)
def EnvW (i : Nat) (v : Option V) : W → Prop
  | .x f y => ∃ a C dd z, hx = some (i, a, C, dd) ∧ v = some (.ref a) ∧ F dd = some (.xd [(f, z)]) ∧ RD P w K F z y ∧ XfOk K C f
  | u => ∃ z, v = some z ∧ RW P w K m F z u
structure Envs (σ : L2.St) (env : Env) : Prop where
  len : σ.length = env.length
  at_ : ∀ (i : Nat) (u : W), env[i]? = some (some u) → EnvW P w K hx m F i (σ[i]?.bind id) u
end
theorem Envs.mono {P : Program} {w : World} {K : PySem.W.Frag} {hx : HX} {m m' : List Addr} {F F' : Hp} {σ : L2.St} {env : Env} (e : Envs P w K hx m F σ env) (x : ∀ a o, F a = some o → F' a = some o) (y : ∀ (n : Nat) a, m[n]? = some a → m'[n]? = some a) : Envs P w K hx m' F' σ env := by
  refine ⟨e.len, fun i u q => ?_⟩
  have z := e.at_ i u q
  cases u with
  | d d =>
    obtain ⟨z, h1, h2⟩ := z
    exact ⟨z, h1, h2.mono x y⟩
  | r n =>
    obtain ⟨z, h1, h2⟩ := z
    exact ⟨z, h1, h2.mono x y⟩
  | x f d =>
    obtain ⟨a, C, dd, z, h1, h2, h3, h4, h5⟩ := z
    exact ⟨a, C, dd, z, h1, h2, x _ _ h3, h4.mono x, h5⟩
theorem Envs.stp {P : Program} {w : World} {K : PySem.W.Frag} {hx : HX} {m m' : List Addr} {F F' H H' : Hp} {σ : L2.St} {env : Env} (e : Envs P w K hx m F σ env) (s : Stp F m H F' m' H') : Envs P w K hx m' F' σ env := e.mono s.ext s.pre
/-- a slot gets a value -/
theorem Envs.set {P : Program} {w : World} {K : PySem.W.Frag} {hx : HX} {m : List Addr} {F : Hp} {σ : L2.St} {env : Env} (e : Envs P w K hx m F σ env) {i : Nat} {v : V} {u : W} (r : RW P w K m F v u) : Envs P w K hx m F (σ.set i (some v)) (env.set i (some u)) := by
  refine ⟨by rw [List.length_set, List.length_set]; exact e.len, fun j u' q => ?_⟩
  by_cases hj : j = i
  · subst hj
    by_cases hl : j < env.length
    · rw [List.getElem?_set_self hl] at q
      cases q
      rw [List.getElem?_set_self (by rw [e.len]; exact hl)]
      cases r with
      | d r => exact ⟨v, rfl, .d r⟩
      | r q => exact ⟨_, rfl, .r q⟩
    · rw [List.getElem?_eq_none (by simpa using hl)] at q
      cases q
  · rw [List.getElem?_set_ne (Ne.symm hj)] at q ⊢
    exact e.at_ j u' q
/-- slots are forgotten -/
theorem Envs.wipe {P : Program} {w : World} {K : PySem.W.Frag} {hx : HX} {m : List Addr} {F : Hp} {σ : L2.St} {env : Env} (e : Envs P w K hx m F σ env) : ∀ vs : List Nat, Envs P w K hx m F (L2.wipe σ vs) (wipeE env vs)
  | [] => e
  | v :: vs => by
    have z := Envs.wipe e vs
    show Envs P w K hx m F ((L2.wipe σ vs).set v none) ((wipeE env vs).set v none)
    refine ⟨by rw [List.length_set, List.length_set]; exact z.len, fun j u' q => ?_⟩
    by_cases hj : j = v
    · subst hj
      by_cases hl : j < (wipeE env vs).length
      · rw [List.getElem?_set_self hl] at q
        cases q
      · rw [List.getElem?_eq_none (by simpa using hl)] at q
        cases q
    · rw [List.getElem?_set_ne (Ne.symm hj)] at q ⊢
      exact z.at_ j u' q
/-- what a def promises: n arguments, g tells the end -/
def spG (P : Program) (w : World) (K : PySem.W.Frag) (n : Nat) (g : List W → Hs → Res W) : Sp := fun vs H Q E => vs.length = n ∧ ∃ F m h ws, Sep P w K m F h H ∧ RWs P w K m F vs ws ∧ Post P w K (RW P w K) E F m H (g ws h) Q
structure BindK (K : PySem.W.Frag) (fd : FuncData) (ps : List Str) (kws : List (Nat × Nat × List Str × List Nat)) (i : Nat) : Prop where
  pos : Binds K fd ps []
  kw : ∀ n ks ord, (i, n, ks, ord) ∈ kws → KBn K fd ps n ks (fun us ws => ordW us ws ord) (fun us ws => ordW us ws ord)
structure FnX (T : Tab) (X : Cx) (n : Nat) (i : Nat) (fe : FEnt) (g : List W → Hs → Res W) (f : Addr) (fd : FuncData) : Prop where
  ok : FnOk X.prog X.w X.K X.mg X.base (L2.CX X.prog X.w) n f fd fe.ps (spG X.prog X.w X.K fe.ps.length g)
  bd : BindK X.K fd fe.ps T.kws i
structure Gd (T : Tab) (C : Ct) (k : Kx) (hx : HX) (X : Cx) (W : WX) : Prop where
  hN : X.N = k.N
  nd : X.N.Nodup
  sc : X.env.scope = k.sc
  fc : ∀ x, k.fc x = true → X.fn x = true
  calm : k.calm = true → X.calm = true
  hu : X.A.units + 100 < cLine
  tk : Takes X W
  fr : ∀ x ∈ T.frees, X.mg x = none
  cn : ∀ x d, C.cn x = some d → ∃ v u, X.mg x = some u ∧ L2.RelV v u ∧ ∀ F, RD X.prog X.w X.K F v d
  at_ : ∀ c f, C.att c f = true → Cls X.K (He.ga X.K c) ∧ NoAttr X.K (He.ga X.K c) f
  fn : k.calm = true → ∀ i fe, T.fns[i]? = some fe → fe.cls = none → ∃ n f fd, X.mg fe.glob = some (.ref f) ∧ PySem.W.keepIn X.K (.ref f) = true ∧ Room n X.A ∧ FnX T X n i fe (C.fn i) f fd
  me : k.calm = true → ∀ i fe c, T.fns[i]? = some fe → fe.cls = some c → ∃ n f fd, Cls X.K (He.ga X.K c) ∧ Meth X.K (He.ga X.K c) fe.name f ∧ Room n X.A ∧ FnX T X n i fe (C.fn i) f fd
  nw : k.calm = true → ∀ i ce fe, T.cls[i]? = some ce → T.fns[ce.init]? = some fe → ∃ n f fd g, C.new i = mkG ce.name g ∧ X.mg ce.name = some (.ref (He.ga X.K ce.name)) ∧ Mk X.K (He.ga X.K ce.name) f ∧ Room (n + 1) X.A ∧ FnX T X n ce.init fe g f fd
  sp : k.calm = true → ∀ i fe c, T.fns[i]? = some fe → fe.cls = some c → ∃ n f fd, Meth X.K (He.ga X.K c) fe.name f ∧ Room (n + 1) X.A ∧ FnX T X n i fe (C.sp i) f fd
  hc0 : k.calm = true → hx = none
  xf : ∀ i a Ca dd, hx = some (i, a, Ca, dd) → ∀ (e : Expr) (te : TE) (f : Str) (pos : Pos), XfOk X.K Ca f → PE X e te → attributeBase e f X.env (eval e X.env) = eval e X.env → PE X (.Attribute e f pos) (tXf a (.ref Ca) (some dd) Ca f te)
end Rf
/-! Expressions run as they mean: the cases. -/
namespace Rf
open PySem PySem.Spec PyProof.Rows L2
section
variable (X : Cx) (C : Ct) (W : WX) (hx : HX)
/-- the reading of an expression -/
def rE (e : E) : TE := fun σ H Q => ∃ F m h env, Sep X.prog X.w X.K m F h H ∧ Envs X.prog X.w X.K hx m F σ env ∧ Post X.prog X.w X.K (RW X.prog X.w X.K) (fun c d H' => W c d σ H') F m H (evE C e env h) Q
def rT (e : E) : TT := fun σ H Q => ∃ F m h env, Sep X.prog X.w X.K m F h H ∧ Envs X.prog X.w X.K hx m F σ env ∧ Post X.prog X.w X.K REq (fun c d H' => W c d σ H') F m H (tst (evE C e env h)) Q
def rEs (es : Es) : TA := fun σ H Q => ∃ F m h env, Sep X.prog X.w X.K m F h H ∧ Envs X.prog X.w X.K hx m F σ env ∧ Post X.prog X.w X.K (RWs X.prog X.w X.K) (fun c d H' => W c d σ H') F m H (evEs C es env h) Q
def rKs (ks : Ks) : TA := fun σ H Q => ∃ F m h env, Sep X.prog X.w X.K m F h H ∧ Envs X.prog X.w X.K hx m F σ env ∧ Post X.prog X.w X.K (RWs X.prog X.w X.K) (fun c d H' => W c d σ H') F m H (evKs C ks env h) Q
def rO (o : Oe) : TO := fun σ H Q => ∃ F m h env, Sep X.prog X.w X.K m F h H ∧ Envs X.prog X.w X.K hx m F σ env ∧ Post X.prog X.w X.K REq (fun c d H' => W c d σ H') F m H (evO C o env h) Q
def rTs (o : Oe) : TT := fun σ H Q => ∃ F m h env, Sep X.prog X.w X.K m F h H ∧ Envs X.prog X.w X.K hx m F σ env ∧ Post X.prog X.w X.K REq (fun c d H' => W c d σ H') F m H (evC C o env h) Q
def rI (it : It) : TI := fun σ H R => ∃ F m h env, Sep X.prog X.w X.K m F h H ∧ Envs X.prog X.w X.K hx m F σ env ∧ Post X.prog X.w X.K (Wk X.prog X.w X.K) (fun c d H' => W c d σ H') F m H (evI C it env h) R
end
section
variable {X : Cx} {C : Ct} {W : WX} {hx : HX} {σ : L2.St} {env : Env} {F H : Hp} {m : List Addr} {h : Hs}
theorem pe_of {e : Expr} {t t' : TE} (q : PE X e t) (g : ∀ σ H Q, t' σ H Q → t σ H Q) : PE X e t' := ⟨fun pins s σ H Q I hq => q.run pins s σ H Q I (g σ H Q hq)⟩
theorem pt_of {e : Expr} {t t' : TT} (q : PT X e t) (g : ∀ σ H Q, t' σ H Q → t σ H Q) : PT X e t' := ⟨fun pins s σ H Q I hq => q.run pins s σ H Q I (g σ H Q hq)⟩
theorem pw_of {e : Expr} {t t' : TT} (q : PW X e t) (g : ∀ σ H Q, t' σ H Q → t σ H Q) : PW X e t' := ⟨fun wh pins s σ H Q I hq => q.run wh pins s σ H Q I (g σ H Q hq)⟩
theorem pa_of {es : List Expr} {t t' : TA} (q : PA X es t) (g : ∀ σ H Q, t' σ H Q → t σ H Q) : PA X es t' := ⟨fun pos pins s σ H Q I hq => q.run pos pins s σ H Q I (g σ H Q hq)⟩
theorem po_of {e : Option Expr} {t t' : TO} (q : PO X e t) (g : ∀ σ H Q, t' σ H Q → t σ H Q) : PO X e t' := ⟨fun pins s σ H Q I hq => q.run pins s σ H Q I (g σ H Q hq)⟩
/-- an expression, then the rest -/
theorem eE {γ δ : Type} {R' : List Addr → Hp → δ → γ → Prop} {e : E} {k : Rf.W → Hs → Res γ} {Q : δ → Hp → Prop} {Q' : VK} (sep : Sep X.prog X.w X.K m F h H) (en : Envs X.prog X.w X.K hx m F σ env) (p : Post X.prog X.w X.K R' (fun c d H' => W c d σ H') F m H ((evE C e env h).bd k) Q)
    (g : ∀ a h' b F' m' H', Stp F m H F' m' H' → Sep X.prog X.w X.K m' F' h' H' → Envs X.prog X.w X.K hx m' F' σ env → RW X.prog X.w X.K m' F' b a → Post X.prog X.w X.K R' (fun c d H' => W c d σ H') F' m' H' (k a h') Q → Q' b H') : rE X C W hx e σ H Q' :=
  ⟨F, m, h, env, sep, en, Post.bind p fun a h' b F' m' H' _ t s r q => g a h' b F' m' H' t s (en.stp t) r q⟩
theorem eEs {γ δ : Type} {R' : List Addr → Hp → δ → γ → Prop} {es : Es} {k : List Rf.W → Hs → Res γ} {Q : δ → Hp → Prop} {Q' : List V → Hp → Prop} (sep : Sep X.prog X.w X.K m F h H) (en : Envs X.prog X.w X.K hx m F σ env) (p : Post X.prog X.w X.K R' (fun c d H' => W c d σ H') F m H ((evEs C es env h).bd k) Q)
    (g : ∀ a h' b F' m' H', Stp F m H F' m' H' → Sep X.prog X.w X.K m' F' h' H' → Envs X.prog X.w X.K hx m' F' σ env → RWs X.prog X.w X.K m' F' b a → Post X.prog X.w X.K R' (fun c d H' => W c d σ H') F' m' H' (k a h') Q → Q' b H') : rEs X C W hx es σ H Q' :=
  ⟨F, m, h, env, sep, en, Post.bind p fun a h' b F' m' H' _ t s r q => g a h' b F' m' H' t s (en.stp t) r q⟩
theorem eKs {γ δ : Type} {R' : List Addr → Hp → δ → γ → Prop} {ks : Ks} {k : List Rf.W → Hs → Res γ} {Q : δ → Hp → Prop} {Q' : List V → Hp → Prop} (sep : Sep X.prog X.w X.K m F h H) (en : Envs X.prog X.w X.K hx m F σ env) (p : Post X.prog X.w X.K R' (fun c d H' => W c d σ H') F m H ((evKs C ks env h).bd k) Q)
    (g : ∀ a h' b F' m' H', Stp F m H F' m' H' → Sep X.prog X.w X.K m' F' h' H' → Envs X.prog X.w X.K hx m' F' σ env → RWs X.prog X.w X.K m' F' b a → Post X.prog X.w X.K R' (fun c d H' => W c d σ H') F' m' H' (k a h') Q → Q' b H') : rKs X C W hx ks σ H Q' :=
  ⟨F, m, h, env, sep, en, Post.bind p fun a h' b F' m' H' _ t s r q => g a h' b F' m' H' t s (en.stp t) r q⟩
theorem eO {γ δ : Type} {R' : List Addr → Hp → δ → γ → Prop} {o : Oe} {k : Option Int → Hs → Res γ} {Q : δ → Hp → Prop} {Q' : Option Int → Hp → Prop} (sep : Sep X.prog X.w X.K m F h H) (en : Envs X.prog X.w X.K hx m F σ env) (p : Post X.prog X.w X.K R' (fun c d H' => W c d σ H') F m H ((evO C o env h).bd k) Q)
    (g : ∀ a h' F' m' H', Stp F m H F' m' H' → Sep X.prog X.w X.K m' F' h' H' → Envs X.prog X.w X.K hx m' F' σ env → Post X.prog X.w X.K R' (fun c d H' => W c d σ H') F' m' H' (k a h') Q → Q' a H') : rO X C W hx o σ H Q' :=
  ⟨F, m, h, env, sep, en, Post.bind p fun a h' b F' m' H' _ t s r q => by subst r; exact g _ h' F' m' H' t s (en.stp t) q⟩
theorem eT {γ δ : Type} {R' : List Addr → Hp → δ → γ → Prop} {e : E} {k : Bool → Hs → Res γ} {Q : δ → Hp → Prop} {Q' : Bool → Hp → Prop} (sep : Sep X.prog X.w X.K m F h H) (en : Envs X.prog X.w X.K hx m F σ env) (p : Post X.prog X.w X.K R' (fun c d H' => W c d σ H') F m H ((tst (evE C e env h)).bd k) Q)
    (g : ∀ a h' F' m' H', Stp F m H F' m' H' → Sep X.prog X.w X.K m' F' h' H' → Envs X.prog X.w X.K hx m' F' σ env → Post X.prog X.w X.K R' (fun c d H' => W c d σ H') F' m' H' (k a h') Q → Q' a H') : rT X C W hx e σ H Q' :=
  ⟨F, m, h, env, sep, en, Post.bind p fun a h' b F' m' H' _ t s r q => by subst r; exact g _ h' F' m' H' t s (en.stp t) q⟩
theorem Res.bd_assoc {α β γ : Type} (r : Res α) (k : α → Hs → Res β) (k' : β → Hs → Res γ) : (r.bd k).bd k' = r.bd fun a h => (k a h).bd k' := by
  cases r <;> rfl
theorem Post.ok_rel {α β : Type} {R : List Addr → Hp → β → α → Prop} {E : XK} {P : Program} {w : World} {K : PySem.W.Frag} {a : α} {b : β} {Q : β → Hp → Prop} (p : Post P w K R E F m H (.ok a h) Q) (s : Sep P w K m F h H) (r : R m F b a) : Q b H := p b F m H Stp.refl s r
/-! ### constants, names -/
theorem tru_rel {P : Program} {w : World} {K : PySem.W.Frag} {x : Rf.W} {v : V} {b : Bool} (s : Sep P w K m F h H) (r : RW P w K m F v x) (e : tru x h = some b) : TruV K v H b := by
  have seq : ∀ {t : Bool} {ws : List Rf.W}, sq x h = some (t, ws) → b = !ws.isEmpty → TruV K v H b := fun {t ws} es eb => by
    obtain ⟨a, vs, rfl, rv, k⟩ := sq_at s r es
    have em : ws.isEmpty = vs.isEmpty := by
      cases rv <;> rfl
    rw [eb, em]
    rcases k with ⟨_, k⟩ | ⟨_, k⟩
    · exact .inr (.inl ⟨vs, sqT_mono s.sub k.sq, rfl⟩)
    · exact .inl ⟨vs, .inl k, rfl⟩
  unfold tru at e
  split at e
  · cases r with
    | d r => cases r; cases e; rfl
  · cases r with
    | d r => cases r; cases e; rfl
  · cases r with
    | d r => cases r; cases e; rfl
  · split at e
    · rename_i l
      cases r with
      | d r => cases r; cases e; exact ⟨lim_le l, rfl⟩
    · cases e
  · split at e
    · rename_i t ws es
      cases e
      exact seq es rfl
    · cases e
variable (C W hx)
theorem s_var {i : Nat} {x : Str} {p : Pos} {T : Tab} {k : Kx} (G : Gd T C k hx X W) (c : visB k i x = true) : PE X (E.var i x p).syn (rE X C W hx (.var i x p)) := by
  unfold visB nameB at c
  simp only [Bool.and_eq_true, Bool.or_eq_true, decide_eq_true_eq, Bool.not_eq_true'] at c
  obtain ⟨c1, ⟨c2, c3, c4⟩, c5⟩ := c
  refine pe_of (pe_var (by rw [G.hN]; exact c1) (by rw [G.sc]; exact c5) c2 c3) fun σ H Q ⟨F, m, h, env, sep, en, p⟩ => ?_
  unfold evE at p
  split at p
  · rename_i d e
    obtain ⟨z, h1, h2⟩ := en.at_ i _ e
    refine ⟨z, ?_, p.here sep h2⟩
    cases q : σ[i]? with
    | none => rw [q] at h1; cases h1
    | some o => rw [q] at h1; exact congrArg some h1
  · rename_i n e
    obtain ⟨z, h1, h2⟩ := en.at_ i _ e
    refine ⟨z, ?_, p.here sep h2⟩
    cases q : σ[i]? with
    | none => rw [q] at h1; cases h1
    | some o => rw [q] at h1; exact congrArg some h1
  · exact p.elim
theorem s_int {i : Int} {k : Nat} {p : Pos} : PE X (E.int i k p).syn (rE X C W hx (.int i k p)) := pe_of pe_int fun σ H Q ⟨F, m, h, env, sep, en, p⟩ => p.rok sep (.int i)
theorem s_str {i : Str} {k : Nat} {p : Pos} : PE X (E.str i k p).syn (rE X C W hx (.str i k p)) := pe_of pe_str fun σ H Q ⟨F, m, h, env, sep, en, p⟩ => p.rok sep (.str i)
theorem s_bl {i : Bool} {k : Nat} {p : Pos} : PE X (E.bl i k p).syn (rE X C W hx (.bl i k p)) := pe_of pe_bl fun σ H Q ⟨F, m, h, env, sep, en, p⟩ => p.rok sep (.bl i)
theorem s_non {k : Nat} {p : Pos} : PE X (E.non k p).syn (rE X C W hx (.non k p)) := pe_of pe_non fun σ H Q ⟨F, m, h, env, sep, en, p⟩ => p.rok sep .non
theorem gl_of {T : Tab} {k : Kx} {x : Str} (G : Gd T C k hx X W) (c : glB k x = true) : Gl X x ∧ (x == ("__debug__" : Str)) = false ∧ x ≠ "__name__" := by
  unfold glB nameB at c
  simp only [Bool.and_eq_true, decide_eq_true_eq, Bool.not_eq_true'] at c
  obtain ⟨⟨c2, c3, c4⟩, c5⟩ := c
  refine ⟨?_, c2, fun e => ?_⟩
  · show X.env.scope.names.lookup x = some .globalImplicit
    rw [G.sc]
    exact c5
  · rw [e] at c4
    exact absurd c4 (by decide)
theorem s_glo {x : Str} {p : Pos} {T : Tab} {k : Kx} (G : Gd T C k hx X W) (c : glB k x = true) : PE X (E.glo x p).syn (rE X C W hx (.glo x p)) := by
  obtain ⟨g1, g2, g3⟩ := gl_of C W hx G c
  cases e : C.cn x with
  | none =>
    refine ⟨fun pins s σ H Q I ⟨F, m, h, env, sep, en, p⟩ => ?_⟩
    unfold evE at p
    rw [e] at p
    exact p.elim
  | some d =>
    obtain ⟨v, u, h1, h2, h3⟩ := G.cn x d e
    refine pe_of (pe_glob g1 h1 h2 g2) fun σ H Q ⟨F, m, h, env, sep, en, p⟩ => ?_
    unfold evE at p
    rw [e] at p
    exact p.rok sep (h3 F)
/-! ### operators -/
section
variable {a b c : E} (ha : PE X a.syn (rE X C W hx a)) (hb : PE X b.syn (rE X C W hx b)) (hc : PE X c.syn (rE X C W hx c))
include ha hb in
theorem s_bin {o : Operator} {mf : Bool} {p : Pos} : PE X (E.bin o mf a b p).syn (rE X C W hx (.bin o mf a b p)) := by
  refine ⟨fun pins s σ H Q I ⟨F, m, h, env, sep, en, p⟩ => ?_⟩
  unfold evE at p
  refine (pe_op (op_binW (E := fun c d H' => W c d σ H') (o := o) (mf := mf)) ha hb).run pins s σ H Q I ?_
  refine eE sep en p fun w1 h1 v1 F1 m1 H1 t1 s1 e1 r1 p1 => ?_
  refine eE s1 e1 p1 fun w2 h2 v2 F2 m2 H2 t2 s2 e2 r2 p2 => ?_
  exact ⟨F2, m2, h2, w1, w2, s2, r1.stp t2, r2, p2⟩
include ha hb in
theorem s_cmp {o : CmpOp} {p : Pos} (hu : X.A.units + 100 < cLine) : PE X (E.cmp o a b p).syn (rE X C W hx (.cmp o a b p)) := by
  refine ⟨fun pins s σ H Q I ⟨F, m, h, env, sep, en, p⟩ => ?_⟩
  unfold evE at p
  refine (pe_cmpR (op_cmpW (E := fun c d H' => W c d σ H') (o := o) hu) ha hb (beh_syn o b)).run pins s σ H Q I ?_
  refine eE sep en p fun w1 h1 v1 F1 m1 H1 t1 s1 e1 r1 p1 => ?_
  refine eE s1 e1 p1 fun w2 h2 v2 F2 m2 H2 t2 s2 e2 r2 p2 => ?_
  exact ⟨F2, m2, h2, w1, w2, s2, r1.stp t2, r2, p2⟩
include ha in
theorem s_neg {p : Pos} : PE X (E.neg a p).syn (rE X C W hx (.neg a p)) := by
  refine pe_of (pe_un un_neg ha) fun σ H Q ⟨F, m, h, env, sep, en, p⟩ => ?_
  unfold evE at p
  refine eE sep en p fun w1 h1 v1 F1 m1 H1 t1 s1 e1 r1 p1 => ?_
  split at p1
  · cases r1 with
    | d r1 =>
      cases r1
      exact ⟨_, rfl, p1.rok s1 (.int _)⟩
  · exact p1.elim
include ha hb in
theorem s_sub {p : Pos} (hu : X.A.units + 100 < cLine) : PE X (E.sub a b p).syn (rE X C W hx (.sub a b p)) := by
  refine ⟨fun pins s σ H Q I ⟨F, m, h, env, sep, en, p⟩ => ?_⟩
  unfold evE at p
  refine (pe_ix (ix_W (E := fun c d H' => W c d σ H') hu) ha hb (ix_syn b)).run pins s σ H Q I ?_
  refine eE sep en p fun w1 h1 v1 F1 m1 H1 t1 s1 e1 r1 p1 => ?_
  refine eE s1 e1 p1 fun w2 h2 v2 F2 m2 H2 t2 s2 e2 r2 p2 => ?_
  exact ⟨F2, m2, h2, w1, w2, s2, r1.stp t2, r2, p2⟩
include ha in
theorem s_slc {lo hi : Oe} {mf : Bool} {p' p : Pos} (hl : PO X lo.syn (rO X C W hx lo)) (hh : PO X hi.syn (rO X C W hx hi)) : PE X (E.slc mf a lo hi p' p).syn (rE X C W hx (.slc mf a lo hi p' p)) := by
  refine ⟨fun pins s σ H Q I ⟨F, m, h, env, sep, en, p⟩ => ?_⟩
  unfold evE at p
  refine (pe_slice (sl_W (E := fun c d H' => W c d σ H') (mf := mf)) ha hl hh).run pins s σ H Q I ?_
  refine eE sep en p fun w1 h1 v1 F1 m1 H1 t1 s1 e1 r1 p1 => ?_
  refine eO s1 e1 p1 fun w2 h2 F2 m2 H2 t2 s2 e2 p2 => ?_
  refine eO s2 e2 p2 fun w3 h3 F3 m3 H3 t3 s3 e3 p3 => ?_
  exact ⟨F3, m3, h3, w1, s3, (r1.stp t2).stp t3, p3⟩
include ha in
theorem s_rev {mf : Bool} {k : Nat} {p1 p2 p3 p : Pos} : PE X (E.rev mf a k p1 p2 p3 p).syn (rE X C W hx (.rev mf a k p1 p2 p3 p)) := by
  refine pe_of (pe_revL ha) fun σ H Q ⟨F, m, h, env, sep, en, p⟩ => ?_
  unfold evE at p
  refine eE sep en p fun w1 h1 v1 F1 m1 H1 t1 s1 e1 r1 p1 => ?_
  split at p1
  · rename_i ws es
    obtain ⟨l, vs, rfl, rv, k⟩ := sq_at s1 r1 es
    rcases k with ⟨z, _⟩ | ⟨_, k⟩
    · cases z
    · have rr : RWs X.prog X.w X.K m1 F1 vs.reverse ws.reverse := by
        have rev : ∀ {vs : List V} {ws : List Rf.W}, RWs X.prog X.w X.K m1 F1 vs ws → RWs X.prog X.w X.K m1 F1 vs.reverse ws.reverse := by
          intro vs ws r
          induction r with
          | nil => exact .nil
          | cons a b ih =>
            rw [List.reverse_cons, List.reverse_cons]
            exact ih.app (.cons a .nil)
        exact rev rv
      obtain ⟨_, q⟩ := p1.mkl s1 rr
      exact ⟨l, vs, rfl, .inl k, q⟩
  · exact p1.elim
include ha in
/-- a value's truth -/
theorem t_val (hv : valB a = true) : PT X a.syn (rT X C W hx a) := by
  refine pt_of (pt_truth ha (true_syn a X.env hv)) fun σ H Q ⟨F, m, h, env, sep, en, p⟩ => ?_
  unfold tst at p
  refine eE sep en p fun w1 h1 v1 F1 m1 H1 t1 s1 e1 r1 p1 => ?_
  split at p1
  · rename_i b eb
    exact ⟨b, tru_rel s1 r1 eb, p1.here s1 rfl⟩
  · exact p1.elim
end
end
end Rf
/-! Expressions run as they mean: the cases, on. -/
namespace Rf
open PySem PySem.Spec PyProof.Rows L2
section
variable {X : Cx} {W : WX} {hx : HX} {σ : L2.St} {env : Env} {F H : Hp} {m : List Addr} {h : Hs}
theorem tst_bd {α : Type} (r : Res α) (k : α → Hs → Res Rf.W) : tst (r.bd k) = r.bd fun a h => tst (k a h) := by
  unfold tst
  rw [Res.bd_assoc]
theorem tst_and (C : Ct) (a b : E) (r : Es) (e : Env) (h : Hs) : tst (evAnd C (.cons a (.cons b r)) e h) = (tst (evE C a e h)).bd fun t h1 => if t = true then tst (evAnd C (.cons b r) e h1) else .ok false h1 := by
  have e1 : evAnd C (.cons a (.cons b r)) e h = (evE C a e h).bd fun w h1 => (match tru w h1 with
      | some true => evAnd C (.cons b r) e h1
      | some false => .ok w h1
      | none => .no) := by
    rw [evAnd] <;> congr 1
  rw [e1, tst_bd]
  unfold tst
  rw [Res.bd_assoc]
  congr 1
  funext w h1
  cases t : tru w h1 with
  | none => rfl
  | some c =>
    cases c
    · show (match tru w h1 with
        | some b => Res.ok b h1
        | none => Res.no) = _
      rw [t]
      rfl
    · rfl
theorem tst_or (C : Ct) (a b : E) (r : Es) (e : Env) (h : Hs) : tst (evOr C (.cons a (.cons b r)) e h) = (tst (evE C a e h)).bd fun t h1 => if t = true then .ok true h1 else tst (evOr C (.cons b r) e h1) := by
  have e1 : evOr C (.cons a (.cons b r)) e h = (evE C a e h).bd fun w h1 => (match tru w h1 with
      | some true => .ok w h1
      | some false => evOr C (.cons b r) e h1
      | none => .no) := by
    rw [evOr] <;> congr 1
  rw [e1, tst_bd]
  unfold tst
  rw [Res.bd_assoc]
  congr 1
  funext w h1
  cases t : tru w h1 with
  | none => rfl
  | some c =>
    cases c
    · rfl
    · show (match tru w h1 with
        | some b => Res.ok b h1
        | none => Res.no) = _
      rw [t]
      rfl
theorem tst_not (C : Ct) (a : E) (p : Pos) (e : Env) (h : Hs) : tst (evE C (.nott a p) e h) = (tst (evE C a e h)).bd fun t h1 => .ok (!t) h1 := by
  rw [evE, tst_bd]
  unfold tst
  rw [Res.bd_assoc]
  congr 1
  funext w h1
  cases t : tru w h1 with
  | none => rfl
  | some c => rfl
theorem tst_ite (C : Ct) (c a b : E) (p : Pos) (e : Env) (h : Hs) : tst (evE C (.ite c a b p) e h) = (tst (evE C c e h)).bd fun t h1 => if t = true then tst (evE C a e h1) else tst (evE C b e h1) := by
  rw [evE, tst_bd]
  unfold tst
  rw [Res.bd_assoc]
  congr 1
  funext w h1
  cases t : tru w h1 with
  | none => rfl
  | some c => cases c <;> rfl
theorem ite_tst (C : Ct) (c a b : E) (p : Pos) (e : Env) (h : Hs) : evE C (.ite c a b p) e h = (tst (evE C c e h)).bd fun t h1 => if t = true then evE C a e h1 else evE C b e h1 := by
  rw [evE]
  unfold tst
  rw [Res.bd_assoc]
  congr 1
  funext w h1
  cases t : tru w h1 with
  | none => rfl
  | some c => cases c <;> rfl
end
section
variable {X : Cx} (C : Ct) (W : WX) (hx : HX)
def rAnd (X : Cx) (C : Ct) (W : WX) (hx : HX) (es : Es) : TE := fun σ H Q => ∃ F m h env, Sep X.prog X.w X.K m F h H ∧ Envs X.prog X.w X.K hx m F σ env ∧ Post X.prog X.w X.K (RW X.prog X.w X.K) (fun c d H' => W c d σ H') F m H (evAnd C es env h) Q
def rOr (X : Cx) (C : Ct) (W : WX) (hx : HX) (es : Es) : TE := fun σ H Q => ∃ F m h env, Sep X.prog X.w X.K m F h H ∧ Envs X.prog X.w X.K hx m F σ env ∧ Post X.prog X.w X.K (RW X.prog X.w X.K) (fun c d H' => W c d σ H') F m H (evOr C es env h) Q
def rTAnd (X : Cx) (C : Ct) (W : WX) (hx : HX) (es : Es) : TT := fun σ H Q => ∃ F m h env, Sep X.prog X.w X.K m F h H ∧ Envs X.prog X.w X.K hx m F σ env ∧ Post X.prog X.w X.K REq (fun c d H' => W c d σ H') F m H (tst (evAnd C es env h)) Q
def rTOr (X : Cx) (C : Ct) (W : WX) (hx : HX) (es : Es) : TT := fun σ H Q => ∃ F m h env, Sep X.prog X.w X.K m F h H ∧ Envs X.prog X.w X.K hx m F σ env ∧ Post X.prog X.w X.K REq (fun c d H' => W c d σ H') F m H (tst (evOr C es env h)) Q
theorem s_and0 {p : Pos} : PE X (.BoolOp .And (Es.nil).syn p) (rAnd X C W hx .nil) := ⟨fun pins s σ H Q I ⟨F, m, h, env, sep, en, q⟩ => by
  unfold evAnd at q
  exact q.elim⟩
theorem s_or0 {p : Pos} : PE X (.BoolOp .Or (Es.nil).syn p) (rOr X C W hx .nil) := ⟨fun pins s σ H Q I ⟨F, m, h, env, sep, en, q⟩ => by
  unfold evOr at q
  exact q.elim⟩
theorem t_and0 {p : Pos} : PW X (.BoolOp .And (Es.nil).syn p) (rTAnd X C W hx .nil) := ⟨fun wh pins s σ H Q I ⟨F, m, h, env, sep, en, q⟩ => by
  unfold evAnd at q
  exact q.elim⟩
theorem t_or0 {p : Pos} : PW X (.BoolOp .Or (Es.nil).syn p) (rTOr X C W hx .nil) := ⟨fun wh pins s σ H Q I ⟨F, m, h, env, sep, en, q⟩ => by
  unfold evOr at q
  exact q.elim⟩
section
variable {a b c : E} {r : Es} {p : Pos}
theorem s_and1 (ha : PE X a.syn (rE X C W hx a)) : PE X (.BoolOp .And (Es.cons a .nil).syn p) (rAnd X C W hx (.cons a .nil)) := pe_of (pe_one ha) fun σ H Q ⟨F, m, h, env, sep, en, q⟩ => by
  unfold evAnd at q
  exact ⟨F, m, h, env, sep, en, q⟩
theorem s_or1 (ha : PE X a.syn (rE X C W hx a)) : PE X (.BoolOp .Or (Es.cons a .nil).syn p) (rOr X C W hx (.cons a .nil)) := pe_of (pe_one ha) fun σ H Q ⟨F, m, h, env, sep, en, q⟩ => by
  unfold evOr at q
  exact ⟨F, m, h, env, sep, en, q⟩
theorem s_and2 (ha : PE X a.syn (rE X C W hx a)) (hr : PE X (.BoolOp .And (Es.cons b r).syn p) (rAnd X C W hx (.cons b r))) : PE X (.BoolOp .And (Es.cons a (.cons b r)).syn p) (rAnd X C W hx (.cons a (.cons b r))) := by
  refine ⟨fun pins s σ H Q I ⟨F, m, h, env, sep, en, q⟩ => ?_⟩
  unfold evAnd at q
  refine BoolOp_and (thn (ha.run pins s σ H (fun x H1 => ∃ t, TruV X.K x H1 t ∧ if t = true then rAnd X C W hx (.cons b r) σ H1 Q else Q x H1) I (eE sep en q fun w1 h1 v1 F1 m1 H1 t1 s1 e1 r1 p1 => ?_)) fun v s1 ⟨x, H1, I1, r1, t, e1, q1⟩ => ?_)
  · split at p1
    · rename_i et
      exact ⟨true, tru_rel s1 r1 et, F1, m1, h1, env, s1, e1, p1⟩
    · rename_i et
      exact ⟨false, tru_rel s1 r1 et, p1.here s1 r1⟩
    · exact p1.elim
  · refine thn (tru_ok pins s1 σ H1 x v (fun t' H2 => if t' = true then rAnd X C W hx (.cons b r) σ H2 Q else Q x H2) I1 r1 ⟨t, e1, q1⟩) fun t' s2 ⟨H2, I2, q2⟩ => ?_
    cases t' with
    | true => exact hr.run pins s2 σ H2 Q I2 q2
    | false => exact ⟨x, H2, I2, r1, q2⟩
theorem s_or2 (ha : PE X a.syn (rE X C W hx a)) (hr : PE X (.BoolOp .Or (Es.cons b r).syn p) (rOr X C W hx (.cons b r))) : PE X (.BoolOp .Or (Es.cons a (.cons b r)).syn p) (rOr X C W hx (.cons a (.cons b r))) := by
  refine ⟨fun pins s σ H Q I ⟨F, m, h, env, sep, en, q⟩ => ?_⟩
  unfold evOr at q
  refine BoolOp_or (thn (ha.run pins s σ H (fun x H1 => ∃ t, TruV X.K x H1 t ∧ if t = true then Q x H1 else rOr X C W hx (.cons b r) σ H1 Q) I (eE sep en q fun w1 h1 v1 F1 m1 H1 t1 s1 e1 r1 p1 => ?_)) fun v s1 ⟨x, H1, I1, r1, t, e1, q1⟩ => ?_)
  · split at p1
    · rename_i et
      exact ⟨true, tru_rel s1 r1 et, p1.here s1 r1⟩
    · rename_i et
      exact ⟨false, tru_rel s1 r1 et, F1, m1, h1, env, s1, e1, p1⟩
    · exact p1.elim
  · refine thn (tru_ok pins s1 σ H1 x v (fun t' H2 => if t' = true then Q x H2 else rOr X C W hx (.cons b r) σ H2 Q) I1 r1 ⟨t, e1, q1⟩) fun t' s2 ⟨H2, I2, q2⟩ => ?_
    cases t' with
    | true => exact ⟨x, H2, I2, r1, q2⟩
    | false => exact hr.run pins s2 σ H2 Q I2 q2
theorem t_and1 (ha : PT X a.syn (rT X C W hx a)) : PW X (.BoolOp .And (Es.cons a .nil).syn p) (rTAnd X C W hx (.cons a .nil)) := pw_of (pw_and1 ha) fun σ H Q ⟨F, m, h, env, sep, en, q⟩ => by
  unfold evAnd at q
  exact ⟨F, m, h, env, sep, en, q⟩
theorem t_or1 (ha : PT X a.syn (rT X C W hx a)) : PW X (.BoolOp .Or (Es.cons a .nil).syn p) (rTOr X C W hx (.cons a .nil)) := pw_of (pw_or1 ha) fun σ H Q ⟨F, m, h, env, sep, en, q⟩ => by
  unfold evOr at q
  exact ⟨F, m, h, env, sep, en, q⟩
theorem t_and2 (ha : PT X a.syn (rT X C W hx a)) (hr : PW X (.BoolOp .And (Es.cons b r).syn p) (rTAnd X C W hx (.cons b r))) : PW X (.BoolOp .And (Es.cons a (.cons b r)).syn p) (rTAnd X C W hx (.cons a (.cons b r))) := pw_of (pw_and ha hr) fun σ H Q ⟨F, m, h, env, sep, en, q⟩ => by
  rw [tst_and] at q
  refine eT sep en q fun t h1 F1 m1 H1 t1 s1 e1 p1 => ?_
  cases t with
  | true => exact ⟨F1, m1, h1, env, s1, e1, p1⟩
  | false => exact p1.here s1 rfl
theorem t_or2 (ha : PT X a.syn (rT X C W hx a)) (hr : PW X (.BoolOp .Or (Es.cons b r).syn p) (rTOr X C W hx (.cons b r))) : PW X (.BoolOp .Or (Es.cons a (.cons b r)).syn p) (rTOr X C W hx (.cons a (.cons b r))) := pw_of (pw_or ha hr) fun σ H Q ⟨F, m, h, env, sep, en, q⟩ => by
  rw [tst_or] at q
  refine eT sep en q fun t h1 F1 m1 H1 t1 s1 e1 p1 => ?_
  cases t with
  | false => exact ⟨F1, m1, h1, env, s1, e1, p1⟩
  | true => exact p1.here s1 rfl
theorem s_not (ha : PE X a.syn (rE X C W hx a)) : PE X (E.nott a p).syn (rE X C W hx (.nott a p)) := by
  refine ⟨fun pins s σ H Q I ⟨F, m, h, env, sep, en, q⟩ => ?_⟩
  unfold evE at q
  refine UnaryOp_ (thn (ha.run pins s σ H (fun x H1 => ∃ t, TruV X.K x H1 t ∧ Q (.bl (!t)) H1) I (eE sep en q fun w1 h1 v1 F1 m1 H1 t1 s1 e1 r1 p1 => ?_)) fun v s1 ⟨x, H1, I1, r1, t, e1, q1⟩ => ?_)
  · split at p1
    · rename_i t et
      exact ⟨t, tru_rel s1 r1 et, p1.rok s1 (.bl _)⟩
    · exact p1.elim
  · refine not_of (thn (tru_ok pins s1 σ H1 x v (fun t' H2 => Q (.bl (!t')) H2) I1 r1 ⟨t, e1, q1⟩) fun t' s2 ⟨H2, I2, q2⟩ => ?_)
    exact ⟨.bl (!t'), H2, I2, rfl, q2⟩
theorem t_not (ha : PT X a.syn (rT X C W hx a)) : PT X (E.nott a p).syn (rT X C W hx (.nott a p)) := pt_of (pt_not ha) fun σ H Q ⟨F, m, h, env, sep, en, q⟩ => by
  rw [tst_not] at q
  exact eT sep en q fun t h1 F1 m1 H1 t1 s1 e1 p1 => p1.here s1 rfl
theorem s_ite (hc : PT X c.syn (rT X C W hx c)) (ha : PE X a.syn (rE X C W hx a)) (hb : PE X b.syn (rE X C W hx b)) : PE X (E.ite c a b p).syn (rE X C W hx (.ite c a b p)) := pe_of (pe_ifExp hc ha hb) fun σ H Q ⟨F, m, h, env, sep, en, q⟩ => by
  rw [ite_tst] at q
  refine eT sep en q fun t h1 F1 m1 H1 t1 s1 e1 p1 => ?_
  cases t with
  | true => exact ⟨F1, m1, h1, env, s1, e1, p1⟩
  | false => exact ⟨F1, m1, h1, env, s1, e1, p1⟩
theorem t_ite (hc : PT X c.syn (rT X C W hx c)) (ha : PT X a.syn (rT X C W hx a)) (hb : PT X b.syn (rT X C W hx b)) : PT X (E.ite c a b p).syn (rT X C W hx (.ite c a b p)) := by
  refine ⟨fun pins s σ H Q I ⟨F, m, h, env, sep, en, q⟩ => ?_⟩
  rw [tst_ite] at q
  refine isTrue_IfExp (thn (hc.run pins s σ H (fun t H1 => if t = true then rT X C W hx a σ H1 Q else rT X C W hx b σ H1 Q) I (eT sep en q fun t h1 F1 m1 H1 t1 s1 e1 p1 => ?_)) fun t s1 ⟨H1, I1, q1⟩ => ?_)
  · cases t with
    | true => exact ⟨F1, m1, h1, env, s1, e1, p1⟩
    | false => exact ⟨F1, m1, h1, env, s1, e1, p1⟩
  · cases t with
    | true => exact ha.run pins s1 σ H1 Q I1 q1
    | false => exact hb.run pins s1 σ H1 Q I1 q1
/-- a comparison's answer is a bool -/
theorem cmp_bl {P : Program} {w : World} {K : PySem.W.Frag} {E : XK} {o : CmpOp} {w1 w2 : Rf.W} {t : Bool} {F H : Hp} {m : List Addr} {h : Hs} {Q : VK} (e : cmpB o w1 w2 h = some t) (g : ∀ F' m' H', Stp F m H F' m' H' → Sep P w K m' F' h H' → Q (.bl t) H') : Post P w K (RW P w K) E F m H (cmpW o w1 w2 h) Q := by
  unfold cmpW
  rw [e]
  intro v F' m' H' t' s' r
  cases r with
  | d r =>
    cases r
    exact g F' m' H' t' s'
theorem chn_ok {o o' : CmpOp} {σ : L2.St} {env : Env} {F H : Hp} {m : List Addr} {h : Hs} {Q : VK} (sep : Sep X.prog X.w X.K m F h H) (en : Envs X.prog X.w X.K hx m F σ env) (q : Post X.prog X.w X.K (RW X.prog X.w X.K) (fun c d H' => W c d σ H') F m H (evE C (.chn o o' a b c p) env h) Q) :
    tChain (rB X.prog X.w X.K (fun c d H' => W c d σ H') (cmpW o)) (rB X.prog X.w X.K (fun c d H' => W c d σ H') (cmpW o')) (rE X C W hx a) (rE X C W hx b) (rE X C W hx c) σ H Q := by
  rw [evE] at q
  refine eE sep en q fun w1 h1 v1 F1 m1 H1 t1 s1 e1 r1 p1 => ?_
  refine eE s1 e1 p1 fun w2 h2 v2 F2 m2 H2 t2 s2 e2 r2 p2 => ?_
  split at p2
  · rename_i et
    refine ⟨F2, m2, h2, w1, w2, s2, r1.stp t2, r2, cmp_bl et fun F3 m3 H3 t3 s3 => ⟨true, rfl, ?_⟩⟩
    show rE X C W hx c σ H3 _
    refine eE s3 (e2.stp t3) (p2.step t3) fun w4 h4 v4 F4 m4 H4 t4 s4 e4 r4 p4 => ?_
    exact ⟨F4, m4, h4, w2, w4, s4, (r2.stp t3).stp t4, r4, p4⟩
  · rename_i et
    refine ⟨F2, m2, h2, w1, w2, s2, r1.stp t2, r2, cmp_bl et fun F3 m3 H3 t3 s3 => ⟨false, rfl, ?_⟩⟩
    exact p2 _ _ _ _ t3 s3 (.d (.bl false))
  · exact p2.elim
theorem s_chn {o o' : CmpOp} (hu : X.A.units + 100 < cLine) (ha : PE X a.syn (rE X C W hx a)) (hb : PE X b.syn (rE X C W hx b)) (hc : PE X c.syn (rE X C W hx c)) : PE X (E.chn o o' a b c p).syn (rE X C W hx (.chn o o' a b c p)) := by
  refine ⟨fun pins s σ H Q I ⟨F, m, h, env, sep, en, q⟩ => ?_⟩
  exact (pe_chain (op_cmpW (E := fun c d H' => W c d σ H') (o := o) hu) (op_cmpW (E := fun c d H' => W c d σ H') (o := o') hu) ha hb hc (marks_syn o o' b c)).run pins s σ H Q I (chn_ok C W hx sep en q)
/-- a value that is a bool, as a test -/
theorem tst_bool {P : Program} {w : World} {K : PySem.W.Frag} {E : XK} {F H : Hp} {m : List Addr} {r : Res Rf.W} {Q : Bool → Hp → Prop} (p : Post P w K REq E F m H (tst r) Q) (hb : ∀ u h', r = .ok u h' → ∃ b, u = .d (.bool b)) : Post P w K (RW P w K) E F m H r (fun x H' => ∃ k, x = .bl k ∧ Q k H') := by
  cases r with
  | no => exact p
  | ex x h => exact p
  | ok u h' =>
    obtain ⟨b, rfl⟩ := hb u h' rfl
    intro v F' m' H' t s q
    cases q with
    | d q =>
      cases q
      exact ⟨b, rfl, p b F' m' H' t s rfl⟩
theorem cmpW_bool {o : CmpOp} {w1 w2 u : Rf.W} {h h' : Hs} (e : cmpW o w1 w2 h = .ok u h') : ∃ b, u = .d (.bool b) := by
  unfold cmpW at e
  split at e
  · cases e
    exact ⟨_, rfl⟩
  · cases e
theorem Res.bd_ok {α β : Type} {r : Res α} {k : α → Hs → Res β} {u : β} {h' : Hs} (e : r.bd k = .ok u h') : ∃ a h, r = .ok a h ∧ k a h = .ok u h' := by
  cases r with
  | ok a h => exact ⟨a, h, rfl, e⟩
  | ex x h => cases e
  | no => cases e
theorem t_cmp {o : CmpOp} (hu : X.A.units + 100 < cLine) (ha : PE X a.syn (rE X C W hx a)) (hb : PE X b.syn (rE X C W hx b)) : PT X (E.cmp o a b p).syn (rT X C W hx (.cmp o a b p)) := by
  refine ⟨fun pins s σ H Q I ⟨F, m, h, env, sep, en, q⟩ => ?_⟩
  refine (pt_cmpR (op_cmpW (E := fun c d H' => W c d σ H') (o := o) hu) ha hb (beh_syn o b)).run pins s σ H Q I ?_
  have q2 := tst_bool q fun u h' e => by
    rw [evE] at e
    obtain ⟨_, _, _, e⟩ := Res.bd_ok e
    obtain ⟨_, _, _, e⟩ := Res.bd_ok e
    exact cmpW_bool e
  rw [evE] at q2
  refine eE sep en q2 fun w1 h1 v1 F1 m1 H1 t1 s1 e1 r1 p1 => ?_
  refine eE s1 e1 p1 fun w2 h2 v2 F2 m2 H2 t2 s2 e2 r2 p2 => ?_
  exact ⟨F2, m2, h2, w1, w2, s2, r1.stp t2, r2, p2⟩
theorem t_chn {o o' : CmpOp} (hu : X.A.units + 100 < cLine) (ha : PE X a.syn (rE X C W hx a)) (hb : PE X b.syn (rE X C W hx b)) (hc : PE X c.syn (rE X C W hx c)) : PT X (E.chn o o' a b c p).syn (rT X C W hx (.chn o o' a b c p)) := by
  refine ⟨fun pins s σ H Q I ⟨F, m, h, env, sep, en, q⟩ => ?_⟩
  refine (pt_chain (op_cmpW (E := fun c d H' => W c d σ H') (o := o) hu) (op_cmpW (E := fun c d H' => W c d σ H') (o := o') hu) ha hb hc (marks_syn o o' b c)).run pins s σ H Q I ?_
  have q2 := tst_bool q fun u h' e => by
    rw [evE] at e
    obtain ⟨_, _, _, e⟩ := Res.bd_ok e
    obtain ⟨_, _, _, e⟩ := Res.bd_ok e
    split at e
    · obtain ⟨_, _, _, e⟩ := Res.bd_ok e
      exact cmpW_bool e
    · cases e
      exact ⟨_, rfl⟩
    · cases e
  exact chn_ok C W hx sep en q2
end
/-! ### displays, argument lists -/
section
variable {a : E} {es : Es} {r : Ks} {p : Pos}
theorem a_nil : PA X (Es.nil).syn (rEs X C W hx .nil) := pa_of pa_nil fun σ H Q ⟨F, m, h, env, sep, en, q⟩ => by
  unfold evEs at q
  exact q.ok_rel sep .nil
theorem a_cons (ha : PE X a.syn (rE X C W hx a)) (hr : PA X es.syn (rEs X C W hx es)) : PA X (Es.cons a es).syn (rEs X C W hx (.cons a es)) := pa_of (pa_cons ha hr (star_syn a es.syn X.env)) fun σ H Q ⟨F, m, h, env, sep, en, q⟩ => by
  unfold evEs at q
  refine eE sep en q fun w1 h1 v1 F1 m1 H1 t1 s1 e1 r1 p1 => ?_
  refine eEs s1 e1 p1 fun w2 h2 v2 F2 m2 H2 t2 s2 e2 r2 p2 => ?_
  exact p2.ok_rel s2 (.cons (r1.stp t2) r2)
theorem k_nil : PK X (Ks.nil).syn (rKs X C W hx .nil) := ⟨fun pos pins s σ H Q I ⟨F, m, h, env, sep, en, q⟩ => pk_nil.run pos pins s σ H Q I (by
  unfold evKs at q
  exact q.ok_rel sep .nil)⟩
theorem k_cons {n : Str} {kp : Pos} (ha : PE X a.syn (rE X C W hx a)) (hr : PK X r.syn (rKs X C W hx r)) : PK X (Ks.cons n a kp r).syn (rKs X C W hx (.cons n a kp r)) := ⟨fun pos pins s σ H Q I ⟨F, m, h, env, sep, en, q⟩ => (pk_cons ha hr).run pos pins s σ H Q I (by
  unfold evKs at q
  refine eE sep en q fun w1 h1 v1 F1 m1 H1 t1 s1 e1 r1 p1 => ?_
  refine eKs s1 e1 p1 fun w2 h2 v2 F2 m2 H2 t2 s2 e2 r2 p2 => ?_
  exact p2.ok_rel s2 (.cons (r1.stp t2) r2))⟩
theorem o_none : PO X (Oe.none).syn (rO X C W hx .none) := po_of po_none fun σ H Q ⟨F, m, h, env, sep, en, q⟩ => by
  unfold evO at q
  exact q.ok_rel sep rfl
theorem o_some (ha : PE X a.syn (rE X C W hx a)) : PO X (Oe.some a).syn (rO X C W hx (.some a)) := po_of (po_some ha) fun σ H Q ⟨F, m, h, env, sep, en, q⟩ => by
  unfold evO at q
  refine eE sep en q fun w1 h1 v1 F1 m1 H1 t1 s1 e1 r1 p1 => ?_
  split at p1
  · cases r1 with
    | d r1 =>
      cases r1
      exact ⟨_, rfl, p1.ok_rel s1 rfl⟩
  · exact p1.elim
theorem s_tup {k : Nat} (ha : PA X es.syn (rEs X C W hx es)) : PE X (E.tup es k p).syn (rE X C W hx (.tup es k p)) := by
  refine ⟨fun pins s σ H Q I ⟨F, m, h, env, sep, en, q⟩ => ?_⟩
  unfold evE at q
  refine wpAny_Tuple_spliced (thn (ha.run p pins s σ H (fun vs H1 => vs.length ≤ sizeLine ∧ ∀ b o, H1 b = none → o.dict = none → Q (.ref b) (upd H1 b (.frz o (.tup vs)))) I (eEs sep en q fun w1 h1 v1 F1 m1 H1 t1 s1 e1 r1 p1 => ?_)) fun us s1 ⟨vs, H1, I1, r1, z, g⟩ => ?_)
  · obtain ⟨hz, g, _⟩ := p1.mkt s1 r1
    exact ⟨hz, g⟩
  · refine ⟨by rw [← r1.length]; exact z, ?_⟩
    exact tup_new (t' := s1.toks) I1 r1 z g
theorem s_lst {mf : Bool} (ha : PA X es.syn (rEs X C W hx es)) : PE X (E.lst mf es p).syn (rE X C W hx (.lst mf es p)) := pe_of (pe_lst ha) fun σ H Q ⟨F, m, h, env, sep, en, q⟩ => by
  unfold evE at q
  refine eEs sep en q fun w1 h1 v1 F1 m1 H1 t1 s1 e1 r1 p1 => ?_
  exact p1.mkl s1 r1
theorem s_dic : PE X (E.dic p).syn (rE X C W hx (.dic p)) := by
  refine ⟨fun pins s σ H Q I ⟨F, m, h, env, sep, en, q⟩ => ?_⟩
  unfold evE at q
  refine wpAny_Dict_empty ?_
  have q' : Post X.prog X.w X.K (RW X.prog X.w X.K) (fun c d H' => W c d σ H') F m H (mkd true [] h) Q := q
  exact tdic_new (tk := s.toks) I (fun b o e => Heap.get?_push_of_some _ e) (Heap.DictOfH.new s.heap) (Nat.le_refl _) fun ep na ns => q'.mkd sep .nil (by simp) _ ep na ns
end
end
end Rf
/-! Calls of defs, methods, classes. -/
namespace Rf
open PySem PySem.Spec PyProof.Rows L2
section
variable {P : Program} {w : World} {K : PySem.W.Frag} {F F' H H' : Hp} {m m' : List Addr} {h : Hs}
/-! ### the tail of the small heap is forgotten -/
theorem RW.cut {n : Nat} {v : V} {u : W} (r : RW P w K m F v u) (l : u.ltb n = true) : RW P w K (m.take n) F v u := by
  cases r with
  | d r => exact .d r
  | @r k a e =>
    have l' : k < n := of_decide_eq_true l
    exact .r (by rw [List.getElem?_take_of_lt l']; exact e)
theorem RWs.cut {n : Nat} : ∀ {vs : List V} {us : List W}, RWs P w K m F vs us → us.all (W.ltb n) = true → RWs P w K (m.take n) F vs us
  | _, _, .nil, _ => .nil
  | _, _, .cons a r, e => by
    simp only [List.all_cons, Bool.and_eq_true] at e
    exact .cons (a.cut e.1) (RWs.cut r e.2)
theorem RKW.cut {n : Nat} : ∀ {xs : List (NestedKey × Addr × Value)} {kvs : List (D × W)}, RKW P w K m F xs kvs → (kvs.all fun kv => kv.2.ltb n) = true → RKW P w K (m.take n) F xs kvs
  | _, _, .nil, _ => .nil
  | _, _, .cons a kt b' c d r, e => by
    simp only [List.all_cons, Bool.and_eq_true] at e
    exact .cons a kt b' c (d.cut e.1) (RKW.cut r e.2)
theorem RF.cut {n : Nat} : ∀ {vs : List (Str × V)} {us : List (Str × W)}, RF P w K m F vs us → (us.all fun p => p.2.ltb n) = true → RF P w K (m.take n) F vs us
  | _, _, .nil, _ => .nil
  | _, _, .cons a r, e => by
    simp only [List.all_cons, Bool.and_eq_true] at e
    exact .cons ⟨a.1, a.2.cut e.1⟩ (RF.cut r e.2)
theorem OB.cut {n : Nat} {a : Addr} {o : Ob} (q : OB P w K m F H a o) (e : o.ltb n = true) : OB P w K (m.take n) F H a o := by
  cases o with
  | lst ws =>
    obtain ⟨f, vs, eH, r⟩ := q
    exact ⟨f, vs, eH, r.cut e⟩
  | dct lk kvs =>
    obtain ⟨f, ns, xs, ep, eH, lk', nd, r⟩ := q
    exact ⟨f, ns, xs, ep, eH, lk', nd, r.cut e⟩
  | ins c fs =>
    obtain ⟨f, dx, vs, eH, r⟩ := q
    exact ⟨f, dx, vs, eH, RF.cut r e⟩
theorem Sep.trim (s : Sep P w K m F h H) {n : Nat} (c : clean n h = true) : Sep P w K (m.take n) F (h.take n) H := by
  refine ⟨by rw [List.length_take, List.length_take, s.len], s.nd.sublist (List.take_sublist _ _), s.sub, fun k o a e1 e2 => ?_⟩
  have hk : k < n := by
    have := (List.getElem?_eq_some_iff.mp e1).1
    rw [List.length_take] at this
    omega
  have e1' := e1
  rw [List.getElem?_take_of_lt hk] at e1 e2
  refine (s.ob k o a e1 e2).cut ?_
  unfold clean at c
  exact List.all_eq_true.mp c o (List.mem_of_getElem? e1')
theorem Stp.trim (s : Stp F m H F' m' H') {n : Nat} (hn : m.length ≤ n) : Stp F m H F' (m'.take n) H' := by
  refine ⟨s.ext, fun k a e => ?_, s.frm, s.newF, fun a ha => s.newM a (List.mem_of_mem_take ha), s.dom⟩
  have hk : k < m.length := (List.getElem?_eq_some_iff.mp e).1
  rw [List.getElem?_take_of_lt (by omega)]
  exact s.pre k a e
theorem RF.look {f : Str} : ∀ {vs : List (Str × V)} {us : List (Str × W)}, RF P w K m F vs us → (us.lookup f = none ∧ vs.lookup f = none) ∨ ∃ u v, us.lookup f = some u ∧ vs.lookup f = some v ∧ RW P w K m F v u
  | _, _, .nil => .inl ⟨rfl, rfl⟩
  | _, _, .cons (a := p) (b := q) a r => by
    obtain ⟨e, rr⟩ := a
    obtain ⟨p1, p2⟩ := p
    obtain ⟨q1, q2⟩ := q
    simp only at e rr
    subst e
    simp only [List.lookup_cons]
    cases hb : f == p1 with
    | true => exact .inr ⟨q2, p2, rfl, rfl, rr⟩
    | false => exact RF.look r
theorem RF.length : ∀ {vs : List (Str × V)} {us : List (Str × W)}, RF P w K m F vs us → vs.length = us.length
  | _, _, .nil => rfl
  | _, _, .cons _ r => congrArg (· + 1) (RF.length r)
theorem RF.put {f : Str} {v : V} {u : W} (q : RW P w K m F v u) : ∀ {vs : List (Str × V)} {us : List (Str × W)}, RF P w K m F vs us → RF P w K m F (L2.putF f v vs) (Rf.putF us f u)
  | _, _, .nil => .cons ⟨rfl, q⟩ .nil
  | _, _, .cons (a := p) (b := z) (l₁ := vr) (l₂ := ur) a r => by
    obtain ⟨e, rr⟩ := a
    obtain ⟨p1, p2⟩ := p
    obtain ⟨q1, q2⟩ := z
    simp only at e rr
    subst e
    unfold L2.putF Rf.putF
    by_cases hf : p1 = f
    · have h2 : f = p1 := hf.symm
      subst h2
      simp
      exact .cons ⟨rfl, q⟩ r
    · simp only [hf, if_false]
      exact .cons ⟨rfl, rr⟩ (RF.put q r)
/-- a new instance, then its __init__ -/
theorem mk_post {c : Str} {g : List W → Hs → Res W} {n : Nat} {vs : List V} {ws : List W} {E : XK} {Q : VK} (sep : Sep P w K m F h H) (rs : RWs P w K m F vs ws) (hn : vs.length + 1 = n) (p : Post P w K (RW P w K) E F m H (mkG c g ws h) Q) (x dx : Addr) (nx : H x = none) (nd : H dx = none) (ne : dx ≠ x) :
    spG P w K n g (.ref x :: vs) (upd (upd H dx (.own x)) x (.ins (He.ga K c) dx [])) (fun v H2 => v = .non ∧ Q (.ref x) H2) E := by
  obtain ⟨t1, s1⟩ := sep.layH (o := .own x) nd
  have nx1 : upd H dx (.own x) x = none := by rw [upd_ne (Ne.symm ne)]; exact nx
  obtain ⟨t2, s2⟩ := s1.layO (o := .ins (He.ga K c) dx []) (b := .ins c []) nx1 ⟨sep.noF nx, dx, [], upd_same, .nil⟩
  have t := t1.trans t2
  have ex : (m ++ [x])[h.length]? = some x := by
    rw [List.getElem?_append_right (by rw [sep.len]; exact Nat.le_refl _)]
    simp [sep.len]
  refine ⟨by rw [List.length_cons]; exact hn, F, m ++ [x], h ++ [.ins c []], .r h.length :: ws, s2, .cons (.r ex) (rs.mono (fun _ _ e => e) t2.pre), ?_⟩
  unfold mkG at p
  cases e : g (.r h.length :: ws) (h ++ [.ins c []]) with
  | no => rw [e] at p; exact p.elim
  | ok u h1 =>
    rw [e] at p
    simp only at p
    split at p
    · rename_i hu
      intro b F' m' H' t' s' r
      have eb : b = .non := by
        unfold isNone at hu
        split at hu
        · cases r with
          | d r => cases r; rfl
        · cases hu
      exact ⟨eb, p _ _ _ _ (t.trans t') s' (.r (t'.pre _ _ ex))⟩
    · exact p.elim
  | ex y h1 =>
    rw [e] at p
    simp only at p
    split at p
    · rename_i hc
      intro d F' m' H' t' s' r
      exact p d F' (m'.take h.length) H' ((t.trans t').trim (by rw [sep.len]; exact Nat.le_refl _)) (s'.trim hc) r
    · exact p.elim
end
section
variable {X : Cx} {W : WX} {T : Tab} {C : Ct}
/-- a callee runs -/
theorem run_at {pins : List (Addr × Obj)} {σ : L2.St} {H : Hp} {s : Shared} {Q : VK} {n : Nat} {f : Addr} {fd : FuncData} {ps : List Str} {sp : Sp} {us' : List Value} {pos : List Value} {kw : List (Str × Value)} {vs : List V} (ok : FnOk X.prog X.w X.K X.mg X.base (L2.CX X.prog X.w) n f fd ps sp)
    (hr : Room n X.A) (tk : Takes X W) (I : L2.Inv X pins σ H s) (bt : BindsTo s fd ⟨pos, kw⟩ (ps.zip us')) (r : Vals vs us') (h : sp vs H Q (fun c d H' => W c d σ H')) : wpAny (model X.prog X.w) X.A (call (.ref f) pos kw) (EP X pins σ Q) X.xe s := by
  refine wpAny_call (codeAny_mono (ok.run X.A X.stack s H ⟨pos, kw⟩ us' vs Q _ hr I.env0 bt r h) fun r s' hq => ?_)
  cases r with
  | error e => exact tk e s' (XE.of_call I (fun _ _ _ h => h) hq)
  | ok fl =>
    cases fl with
    | ret u => exact I.after hq
    | next => exact hq.elim
    | brk => exact hq.elim
    | cont => exact hq.elim
theorem pair_get {α β : Type} {R : α → β → Prop} : ∀ {xs : List α} {ys : List β} (i : Nat), Paired R xs ys → (xs[i]? = none ∧ ys[i]? = none) ∨ ∃ x y, xs[i]? = some x ∧ ys[i]? = some y ∧ R x y
  | _, _, _, .nil => .inl ⟨by simp, by simp⟩
  | _, _, 0, .cons a _ => .inr ⟨_, _, List.getElem?_cons_zero, List.getElem?_cons_zero, a⟩
  | _, _, i + 1, .cons _ r => by
    simp only [List.getElem?_cons_succ]
    exact pair_get i r
theorem pair_app {α β : Type} {R : α → β → Prop} {xs zs : List α} {ys ws : List β} (r1 : Paired R xs ys) (r2 : Paired R zs ws) : Paired R (xs ++ zs) (ys ++ ws) := by
  induction r1 with
  | nil => exact r2
  | cons a r ih => exact .cons a ih
theorem pair_ord {α β : Type} {R : α → β → Prop} {xs zs : List α} {ys ws : List β} (r1 : Paired R xs ys) (r2 : Paired R zs ws) (ord : List Nat) : Paired R (ordW xs zs ord) (ordW ys ws ord) := by
  unfold ordW
  refine pair_app r1 ?_
  induction ord with
  | nil => exact .nil
  | cons i r ih =>
    rcases pair_get i r2 with ⟨e1, e2⟩ | ⟨x, y, e1, e2, q⟩
    · simpa [List.filterMap_cons, e1, e2] using ih
    · simp only [List.filterMap_cons, e1, e2]
      exact .cons q ih
theorem bind_ar {n i j : Nat} {fe : FEnt} {g : List Rf.W → Hs → Res Rf.W} {f : Addr} {fd : FuncData} {s : Shared} {us ws : List Value} {ks : List Str} {ord : List Nat} (ok : FnX T X n i fe g f fd) (hk : X.K.In s.heap) (l1 : us.length = j) (l2 : ws.length = ks.length) (hc : kwB T fe i j ks ord = true) :
    BindsTo s fd ⟨us, ks.zip ws⟩ (fe.ps.zip (ordW us ws ord)) := by
  unfold kwB at hc
  cases ks with
  | nil =>
    simp only [List.isEmpty_nil, if_true, Bool.and_eq_true, decide_eq_true_eq] at hc
    obtain ⟨h1, h2⟩ := hc
    have e0 : ord = [] := by
      cases ord with
      | nil => rfl
      | cons _ _ => cases h2
    subst e0
    have eo : ordW us ws [] = us := by unfold ordW; simp
    rw [eo]
    have bt := ok.bd.pos s us hk (by rw [List.append_nil, l1, h1])
    rw [List.append_nil] at bt
    exact bt
  | cons k kr =>
    have hm : (i, j, k :: kr, ord) ∈ T.kws := by
      simp only [List.isEmpty_cons, Bool.false_eq_true, if_false, Bool.and_eq_true, decide_eq_true_eq] at hc
      exact hc.1
    exact (ok.bd.kw j (k :: kr) ord hm).to s us ws hk l1 l2
/-- with what is written -/
theorem run_ar {pins : List (Addr × Obj)} {σ : L2.St} {H : Hp} {s : Shared} {Q : VK} {n i j : Nat} {fe : FEnt} {g : List Rf.W → Hs → Res Rf.W} {f : Addr} {fd : FuncData} {us ws : List Value} {vs zs : List V} {ks : List Str} {ord : List Nat} (ok : FnX T X n i fe g f fd)
    (hr : Room n X.A) (tk : Takes X W) (I : L2.Inv X pins σ H s) (r1 : Vals vs us) (r2 : Vals zs ws) (l1 : vs.length = j) (l2 : zs.length = ks.length) (hc : kwB T fe i j ks ord = true)
    (h : spG X.prog X.w X.K fe.ps.length g (ordW vs zs ord) H Q (fun c d H' => W c d σ H')) : wpAny (model X.prog X.w) X.A (call (.ref f) us (ks.zip ws)) (EP X pins σ Q) X.xe s :=
  run_at ok.ok hr tk I (bind_ar ok I.kIn (by rw [← Paired.length r1, l1]) (by rw [← Paired.length r2, l2]) hc) (pair_ord r1 r2 ord) h
variable {hx : HX}
theorem evEs_len {C : Ct} : ∀ {es : Es} {e : Env} {h h' : Hs} {ws : List Rf.W}, evEs C es e h = .ok ws h' → ws.length = es.len
  | .nil, e, h, h', ws, q => by
    unfold evEs at q
    cases q
    rfl
  | .cons a r, e, h, h', ws, q => by
    unfold evEs at q
    obtain ⟨u, h1, _, q⟩ := Res.bd_ok q
    obtain ⟨us, h2, q2, q⟩ := Res.bd_ok q
    cases q
    rw [List.length_cons, evEs_len q2]
    rfl
theorem evKs_len {C : Ct} : ∀ {es : Ks} {e : Env} {h h' : Hs} {ws : List Rf.W}, evKs C es e h = .ok ws h' → ws.length = es.names.length
  | .nil, e, h, h', ws, q => by
    unfold evKs at q
    cases q
    rfl
  | .cons n a p r, e, h, h', ws, q => by
    unfold evKs at q
    obtain ⟨u, h1, _, q⟩ := Res.bd_ok q
    obtain ⟨us, h2, q2, q⟩ := Res.bd_ok q
    cases q
    rw [List.length_cons, evKs_len q2]
    rfl
/-- the written arguments, then the call -/
theorem args_run {es : Es} {ks : Ks} {f : Addr} {first : List Value} {pos : Pos} (kp : PySem.W.keepIn X.K (.ref f) = true) (ha : PA X es.syn (rEs X C W hx es)) (hk : PK X ks.syn (rKs X C W hx ks)) {R : List V → List V → Hp → VK → Prop} {σ : L2.St}
    (run : ∀ (pins : List (Addr × Obj)) (s : Shared) (H : Hp) (vs zs : List V) (us ws : List Value) (Q : VK), L2.Inv X pins σ H s → Vals vs us → Vals zs ws → R vs zs H Q → wpAny (model X.prog X.w) X.A (call (.ref f) (first ++ us) (ks.names.zip ws)) (EP X pins σ Q) X.xe s)
    {pins : List (Addr × Obj)} {s : Shared} {H : Hp} {Q : VK} (I : L2.Inv X pins σ H s) (h : rEs X C W hx es σ H fun vs H1 => rKs X C W hx ks σ H1 fun zs H2 => R vs zs H2 Q) :
    wpAny (model X.prog X.w) X.A (callWith pos (.ref f) first (backTo pos (starEach es.syn X.env)) (backToKw pos (keywordEach ks.syn X.env))) (EP X pins σ Q) X.xe s := by
  cases es with
  | nil =>
    have go : ∀ {Q' : List V → Hp → Prop}, rEs X C W hx .nil σ H Q' → Q' [] H := fun {Q'} ⟨F, m, h, env, sep, en, q⟩ => by
      unfold evEs at q
      exact q.ok_rel sep .nil
    have h1 := go h
    cases ks with
    | nil =>
      have go2 : ∀ {Q' : List V → Hp → Prop}, rKs X C W hx .nil σ H Q' → Q' [] H := fun {Q'} ⟨F, m, h, env, sep, en, q⟩ => by
        unfold evKs at q
        exact q.ok_rel sep .nil
      exact PySem.W.callWith_K0 I.kIn kp (run pins s H [] [] [] [] Q I .nil .nil (go2 h1))
    | cons n a p r =>
      refine PySem.W.callWith_KW0 I.kIn kp (kw_all (.cons n a p r) pos X.env) ?_ (by rw [kw_any]; rfl)
      refine thn (hk.run pos pins s σ H _ I h1) fun ws s2 ⟨zs, H2, I2, rz, q2⟩ => ⟨I2.kIn, ?_⟩
      rw [kw_names]
      exact run pins s2 H2 [] zs [] ws Q I2 .nil rz q2
  | cons b br =>
    cases ks with
    | nil =>
      refine PySem.W.callWith_K (h₀ := X.base) I.ok.mod.kin kp (thn (ha.run pos pins s σ H _ I h) fun us s1 ⟨vs, H1, I1, r1, q1⟩ => ⟨I1.kIn, ?_⟩) (star_syn b br.syn X.env) (plain_syn br pos X.env)
      have go2 : ∀ {Q' : List V → Hp → Prop}, rKs X C W hx .nil σ H1 Q' → Q' [] H1 := fun {Q'} ⟨F, m, h, env, sep, en, q⟩ => by
        unfold evKs at q
        exact q.ok_rel sep .nil
      exact run pins s1 H1 vs [] us [] Q I1 r1 .nil (go2 q1)
    | cons n a p r =>
      refine PySem.W.callWith_KW (h₀ := X.base) I.ok.mod.kin kp (kw_all (.cons n a p r) pos X.env) (thn (ha.run pos pins s σ H _ I h) fun us s1 ⟨vs, H1, I1, r1, q1⟩ => ?_) (by rw [kw_any, show (backTo pos (starEach (b.syn :: br.syn) X.env)).any (·.1) = false from plain_syn (.cons b br) pos X.env]; rfl) (star_syn b br.syn X.env)
      refine thn (hk.run pos pins s1 σ H1 _ I1 q1) fun ws s2 ⟨zs, H2, I2, rz, q2⟩ => ⟨I2.kIn, ?_⟩
      rw [kw_names]
      exact run pins s2 H2 vs zs us ws Q I2 r1 rz q2
theorem RWs.ord {P : Program} {w : World} {K : PySem.W.Frag} {F : Hp} {m : List Addr} {vs zs : List V} {us ws : List Rf.W} (r1 : RWs P w K m F vs us) (r2 : RWs P w K m F zs ws) (ord : List Nat) : RWs P w K m F (ordW vs zs ord) (ordW us ws ord) := by
  unfold ordW
  refine r1.app ?_
  induction ord with
  | nil => exact .nil
  | cons i r ih =>
    cases e : ws[i]? with
    | none =>
      have e2 : zs[i]? = Option.none := by
        rw [List.getElem?_eq_none_iff, r2.length]
        exact List.getElem?_eq_none_iff.mp e
      simpa [List.filterMap_cons, e, e2] using ih
    | some u =>
      obtain ⟨v, e2, rv⟩ := r2.get e
      simp only [List.filterMap_cons, e, e2]
      exact .cons rv ih
theorem ord_len {α : Type} {us zs : List α} {ord : List Nat} {β : Type} {vs ws : List β} (h1 : us.length = vs.length) (h2 : zs.length = ws.length) : (ordW us zs ord).length = (ordW vs ws ord).length := by
  unfold ordW
  rw [List.length_append, List.length_append, h1]
  congr 1
  induction ord with
  | nil => rfl
  | cons i r ih =>
    by_cases hi : i < zs.length
    · have hi' : i < ws.length := by omega
      simp [List.filterMap_cons, List.getElem?_eq_getElem hi, List.getElem?_eq_getElem hi', ih]
    · have hi' : ¬ i < ws.length := by omega
      simp [List.filterMap_cons, List.getElem?_eq_none (Nat.le_of_not_lt hi), List.getElem?_eq_none (Nat.le_of_not_lt hi'), ih]
theorem ord_all {α : Type} {us zs : List α} : ∀ {ord : List Nat}, (∀ o ∈ ord, o < zs.length) → (ordW us zs ord).length = us.length + ord.length := by
  intro ord hall
  unfold ordW
  rw [List.length_append]
  congr 1
  induction ord with
  | nil => rfl
  | cons i r ih =>
    have hi : i < zs.length := hall i (List.mem_cons_self ..)
    simp [List.filterMap_cons, List.getElem?_eq_getElem hi, ih fun o ho => hall o (List.mem_cons_of_mem _ ho)]
theorem kw_len {T : Tab} {fe : FEnt} {i j : Nat} {ks : List Str} {ord : List Nat} {α : Type} {us zs : List α} (hc : kwB T fe i j ks ord = true) (l1 : us.length = j) (l2 : zs.length = ks.length) : (ordW us zs ord).length = fe.ps.length := by
  unfold kwB at hc
  cases ks with
  | nil =>
    simp only [List.isEmpty_nil, if_true, Bool.and_eq_true, decide_eq_true_eq] at hc
    obtain ⟨h1, h2⟩ := hc
    cases ord with
    | nil =>
      unfold ordW
      simp [l1, h1]
    | cons _ _ => cases h2
  | cons k kr =>
    simp only [List.isEmpty_cons, Bool.false_eq_true, if_false, Bool.and_eq_true, decide_eq_true_eq, List.all_eq_true] at hc
    rw [ord_all fun o ho => by rw [l2]; exact hc.2.2 o ho, l1]
    exact hc.2.1
end
end Rf
/-! Calls of defs, methods, classes; fields; built-ins: the cases. -/
namespace Rf
open PySem PySem.Spec PyProof.Rows L2
section
variable {X : Cx} {C : Ct} {W : WX} {hx : HX} {σ : L2.St} {env : Env} {F H : Hp} {m : List Addr} {h : Hs}
theorem eEs' {γ δ : Type} {R' : List Addr → Hp → δ → γ → Prop} {es : Es} {k : List Rf.W → Hs → Res γ} {Q : δ → Hp → Prop} {Q' : List V → Hp → Prop} (sep : Sep X.prog X.w X.K m F h H) (en : Envs X.prog X.w X.K hx m F σ env) (p : Post X.prog X.w X.K R' (fun c d H' => W c d σ H') F m H ((evEs C es env h).bd k) Q)
    (g : ∀ a h' b F' m' H', a.length = es.len → Stp F m H F' m' H' → Sep X.prog X.w X.K m' F' h' H' → Envs X.prog X.w X.K hx m' F' σ env → RWs X.prog X.w X.K m' F' b a → Post X.prog X.w X.K R' (fun c d H' => W c d σ H') F' m' H' (k a h') Q → Q' b H') : rEs X C W hx es σ H Q' :=
  ⟨F, m, h, env, sep, en, Post.bind p fun a h' b F' m' H' e t s r q => g a h' b F' m' H' (evEs_len e) t s (en.stp t) r q⟩
theorem eKs' {γ δ : Type} {R' : List Addr → Hp → δ → γ → Prop} {ks : Ks} {k : List Rf.W → Hs → Res γ} {Q : δ → Hp → Prop} {Q' : List V → Hp → Prop} (sep : Sep X.prog X.w X.K m F h H) (en : Envs X.prog X.w X.K hx m F σ env) (p : Post X.prog X.w X.K R' (fun c d H' => W c d σ H') F m H ((evKs C ks env h).bd k) Q)
    (g : ∀ a h' b F' m' H', a.length = ks.names.length → Stp F m H F' m' H' → Sep X.prog X.w X.K m' F' h' H' → Envs X.prog X.w X.K hx m' F' σ env → RWs X.prog X.w X.K m' F' b a → Post X.prog X.w X.K R' (fun c d H' => W c d σ H') F' m' H' (k a h') Q → Q' b H') : rKs X C W hx ks σ H Q' :=
  ⟨F, m, h, env, sep, en, Post.bind p fun a h' b F' m' H' e t s r q => g a h' b F' m' H' (evKs_len e) t s (en.stp t) r q⟩
end
theorem Es.syn_len : ∀ es : Es, es.syn.length = es.len
  | .nil => rfl
  | .cons a r => by
    show r.syn.length + 1 = r.len + 1
    rw [Es.syn_len r]
theorem Ks.syn_len : ∀ ks : Ks, ks.syn.length = ks.names.length
  | .nil => rfl
  | .cons n a p r => by
    show r.syn.length + 1 = r.names.length + 1
    rw [Ks.syn_len r]
theorem form_syn (es : Es) (ks : Ks) (pos : Pos) (env : PySem.Env) (h : es.len + ks.names.length < 29) : methodCallForm (es.syn.length + ks.syn.length) (backTo pos (starEach es.syn env)) (backToKw pos (keywordEach ks.syn env)) = true := by
  unfold methodCallForm
  have h1 : (backTo pos (starEach es.syn env)).all (!·.1) = true := by
    have z := plain_syn es pos env
    rw [List.any_eq_false] at z
    rw [List.all_eq_true]
    intro x hx
    simpa using z x hx
  rw [h1, kw_all, Es.syn_len, Ks.syn_len]
  simp only [Bool.true_and, decide_eq_true_eq]
  split <;> omega
section
variable {X : Cx} (C : Ct) (W : WX) (hx : HX) {T : Tab} {k : Kx} (G : Gd T C k hx X W)
include G
section
variable {a : E} {es : Es} {ks : Ks} {ord : List Nat} {p0 p1 p : Pos}
theorem s_cal {f : Nat} {x : Str} (c1 : glB k x = true) (c2 : callB T k none x f es.len ks.names ord = true) (ha : PA X es.syn (rEs X C W hx es)) (hk : PK X ks.syn (rKs X C W hx ks)) : PE X (E.cal f x es ks ord p0 p).syn (rE X C W hx (.cal f x es ks ord p0 p)) := by
  obtain ⟨g1, g2, g3⟩ := gl_of C W hx G c1
  unfold callB at c2
  simp only [Bool.and_eq_true] at c2
  obtain ⟨c3, c2⟩ := c2
  split at c2
  · rename_i fe ef
    simp only [Bool.and_eq_true, decide_eq_true_eq, Option.isSome_none, Bool.false_eq_true, if_false, Nat.add_zero] at c2
    obtain ⟨h1, h2, h3⟩ := c2
    obtain ⟨n, fa, fd, m1, kp, hr, ok⟩ := G.fn c3 f fe ef h1
    subst h2
    refine ⟨fun pins s σ H Q I ⟨F, m, h, env, sep, en, q⟩ => ?_⟩
    unfold evE at q
    refine wpAny_Call_Name_kw (ld_glob I g1 m1 ?_ g2)
    refine args_run (hx := hx) (C := C) (W := W) kp ha hk (R := fun vs zs H Q => vs.length = es.len ∧ zs.length = ks.names.length ∧ spG X.prog X.w X.K fe.ps.length (C.fn f) (ordW vs zs ord) H Q (fun c d H' => W c d σ H')) (fun pins s H vs zs us ws Q I r1 r2 q => ?_) I ?_
    · exact run_ar ok hr G.tk I r1 r2 q.1 q.2.1 h3 q.2.2
    · refine eEs' sep en q fun w1 h1 v1 F1 m1 H1 l1 t1 s1 e1 r1 p1 => ?_
      refine eKs' s1 e1 p1 fun w2 h2 v2 F2 m2 H2 l2 t2 s2 e2 r2 p2 => ?_
      have lv1 : v1.length = es.len := by rw [r1.length, l1]
      have lv2 : v2.length = ks.names.length := by rw [r2.length, l2]
      exact ⟨lv1, lv2, kw_len h3 lv1 lv2, F2, m2, h2, _, s2, RWs.ord (r1.stp t2) r2 ord, p2⟩
  · cases c2
theorem s_mcl {f : Nat} {c mm : Str} (c1 : dotB a = true) (cl : (p1.endLine == p.line) = true) (cn : es.len + ks.names.length < 29) (c2 : callB T k (some c) mm f es.len ks.names ord = true) (he : PE X a.syn (rE X C W hx a)) (ha : PA X es.syn (rEs X C W hx es)) (hk : PK X ks.syn (rKs X C W hx ks)) :
    PE X (E.mcl f c mm a es ks ord p1 p).syn (rE X C W hx (.mcl f c mm a es ks ord p1 p)) := by
  unfold callB at c2
  simp only [Bool.and_eq_true] at c2
  obtain ⟨c3, c2⟩ := c2
  split at c2
  · rename_i fe ef
    simp only [Bool.and_eq_true, decide_eq_true_eq, Option.isSome_some, if_true] at c2
    obtain ⟨h1, h2, h3⟩ := c2
    obtain ⟨n, fa, fd, kc, me, hr, ok⟩ := G.me c3 f fe c ef h1
    subst h2
    refine ⟨fun pins s σ H Q I ⟨F, m, h, env, sep, en, q⟩ => ?_⟩
    unfold evE at q
    rw [show (E.mcl f c fe.name a es ks ord p1 p).syn = .Call (.Attribute a.syn fe.name p1) es.syn ks.syn p from rfl, arm_eval_Call, base_syn a fe.name X.env c1]
    refine wpAny_bind (thn (he.run pins s σ H (fun x H1 => ∃ l dx fs, x = .ref l ∧ H1 l = some (.ins (He.ga X.K c) dx fs) ∧ fs.lookup fe.name = none ∧ rEs X C W hx es σ H1 fun vs H2 => rKs X C W hx ks σ H2 fun zs H3 => vs.length = es.len ∧ zs.length = ks.names.length ∧ spG X.prog X.w X.K fe.ps.length (C.fn f) (ordW (x :: vs) zs ord) H3 Q (fun c d H' => W c d σ H')) I ?_) fun u s1 ⟨x, H1, I1, rx, l, dx, fs, ex, ea, lk, q1⟩ => ?_)
    · refine eE sep en q fun w1 h1 v1 F1 m1 H1 t1 s1 e1 r1 p1 => ?_
      split at p1
      · rename_i n
        split at p1
        · rename_i c' fs eo
          split at p1
          · rename_i cc
            obtain ⟨rfl, lk⟩ := cc
            cases r1 with
            | @r _ l ea =>
              obtain ⟨f0, dx, vs, eH, rr⟩ := s1.ins ea eo
              have lk' : vs.lookup fe.name = none := by
                rcases RF.look (f := fe.name) rr with ⟨_, z⟩ | ⟨u, v, z, _⟩
                · exact z
                · rw [lk] at z; cases z
              refine ⟨l, dx, vs, rfl, eH, lk', ?_⟩
              refine eEs' s1 e1 p1 fun w2 h2 v2 F2 m2 H2 l2 t2 s2 e2 r2 p2 => ?_
              refine eKs' s2 e2 p2 fun w3 h3' v3 F3 m3 H3 l3 t3 s3 e3 r3 p3 => ?_
              have lv2 : v2.length = es.len := by rw [r2.length, l2]
              have lv3 : v3.length = ks.names.length := by rw [r3.length, l3]
              refine ⟨lv2, lv3, kw_len h3 (by rw [List.length_cons, lv2]) lv3, F3, m3, h3', _, s3, ?_, p3⟩
              exact .cons (.r (t3.pre _ _ (t2.pre _ _ ea))) (RWs.ord (r2.stp t3) r3 ord)
          · exact p1.elim
        · exact p1.elim
      · exact p1.elim
    · subst ex
      obtain rfl : u = Value.ref l := rx
      refine wpAny_bind (wpAny_standAt ?_)
      unfold methodCall
      rw [form_syn es ks p X.env cn]
      refine wpAny_bind (wpAny_holding (getmeth_ok I1 ea kc me lk (wpAny_bind ?_)))
      have hpos : methodCallPos true a.syn X.env p1 p = pure p := by
        unfold methodCallPos
        simp [cl]
      refine wpAny_of_eq hpos ?_
      refine args_run (hx := hx) (C := C) (W := W) (first := [.ref l]) me.kp ha hk (R := fun vs zs H Q => vs.length = es.len ∧ zs.length = ks.names.length ∧ spG X.prog X.w X.K fe.ps.length (C.fn f) (ordW (.ref l :: vs) zs ord) H Q (fun c d H' => W c d σ H')) (fun pins s H vs zs us ws Q I r1 r2 q => ?_) I1 q1
      exact run_ar (vs := .ref l :: vs) ok hr G.tk I (.cons (show L2.RelV (.ref l) (.ref l) from rfl) r1) r2 (by rw [List.length_cons, q.1]) q.2.1 h3 q.2.2
  · cases c2
theorem s_new {c : Nat} {x : Str} (c1 : glB k x = true) (c2 : newB T k x c es.len ks.names ord = true) (ha : PA X es.syn (rEs X C W hx es)) (hk : PK X ks.syn (rKs X C W hx ks)) : PE X (E.new c x es ks ord p0 p).syn (rE X C W hx (.new c x es ks ord p0 p)) := by
  obtain ⟨g1, g2, g3⟩ := gl_of C W hx G c1
  unfold newB at c2
  simp only [Bool.and_eq_true] at c2
  obtain ⟨c3, c2⟩ := c2
  split at c2
  · rename_i ce ec
    simp only [Bool.and_eq_true, decide_eq_true_eq] at c2
    obtain ⟨h1, c2⟩ := c2
    subst h1
    split at c2
    · rename_i fe ef
      simp only [Bool.and_eq_true, decide_eq_true_eq] at c2
      obtain ⟨h2, h3, h4, h5⟩ := c2
      obtain ⟨n, fa, fd, g, eg, m1, mk, hr, ok⟩ := G.nw c3 c ce fe ec ef
      refine ⟨fun pins s σ H Q I ⟨F, m, h, env, sep, en, q⟩ => ?_⟩
      unfold evE at q
      refine wpAny_Call_Name_kw (ld_glob I g1 m1 ?_ g2)
      refine args_run (hx := hx) (C := C) (W := W) mk.kp ha hk (R := fun vs zs H Q => vs.length = es.len ∧ zs.length = ks.names.length ∧ ∀ x dx, H x = none → H dx = none → dx ≠ x → spG X.prog X.w X.K fe.ps.length g (.ref x :: ordW vs zs ord) (upd (upd H dx (.own x)) x (.ins (He.ga X.K ce.name) dx [])) (fun v H2 => v = .non ∧ Q (.ref x) H2) (fun c d H' => W c d σ H')) (fun pins s H vs zs us ws Q I r1 r2 q => ?_) I ?_
      · have hq := q.2.2 (s.heap.objs.size + 1) s.heap.objs.size (I.hok.fresh (Nat.le_succ _)) (I.hok.fresh (Nat.le_refl _)) (Nat.ne_of_lt (Nat.lt_succ_self _))
        have I2 := Inv.made (C := He.ga X.K ce.name) I
        have rv : Vals (V.ref (s.heap.objs.size + 1) :: vs) (Value.ref (s.heap.objs.size + 1) :: us) := .cons (show L2.RelV (.ref _) (.ref _) from rfl) r1
        refine wpAny_call (make_map (f := fa) I.kIn mk.makes mk.init (beq_iff_eq.mp mk.fn) (codeAny_mono (ok.ok.run _ X.stack _ _ ⟨Value.ref (s.heap.objs.size + 1) :: us, ks.names.zip ws⟩ _ _ _ _ (hr.make _ us (ks.names.zip ws))
          (I2.env0.make _ us (ks.names.zip ws)) (bind_ar ok I2.kIn (by rw [← Paired.length rv, List.length_cons, q.1]) (by rw [← Paired.length r2, q.2.1]) h5) (pair_ord rv r2 ord) hq) fun r s' hq' => ?_))
        cases r with
        | error e => exact G.tk e s' (XE.of_call I2 (fun _ _ _ h => h) hq')
        | ok fl =>
          cases fl with
          | ret u =>
            obtain ⟨v, H', I3, rv', ev, q3⟩ := I2.after hq'
            subst ev
            exact ⟨rv', ⟨V.ref (s.heap.objs.size + 1), H', I3, rfl, q3⟩⟩
          | next => exact hq'.elim
          | brk => exact hq'.elim
          | cont => exact hq'.elim
      · refine eEs' sep en q fun w1 h1 v1 F1 m1 H1 l1 t1 s1 e1 r1 p1 => ?_
        refine eKs' s1 e1 p1 fun w2 h2' v2 F2 m2 H2 l2 t2 s2 e2 r2 p2 => ?_
        have lv1 : v1.length = es.len := by rw [r1.length, l1]
        have lv2 : v2.length = ks.names.length := by rw [r2.length, l2]
        rw [eg] at p2
        have l3 : (ordW (V.non :: v1) v2 ord).length = fe.ps.length := kw_len h5 (by rw [List.length_cons, lv1]) lv2
        refine ⟨lv1, lv2, fun x dx nx nd ne => mk_post s2 (RWs.ord (r1.stp t2) r2 ord) ?_ p2 x dx nx nd ne⟩
        unfold ordW at l3 ⊢
        simpa [Nat.add_assoc, Nat.add_comm] using l3
    · cases c2
  · cases c2
end
end
end Rf
/-! Fields, built-ins, methods of built-ins; targets; what a loop walks: the cases. -/
namespace Rf
open PySem PySem.Spec PyProof.Rows L2
def Bi.val : Bi → Value
  | .len => .builtin "len" | .all => .builtin "all" | .any => .builtin "any" | .tuple => .type "tuple" | .list => .type "list" | .sorted => .builtin "sorted" | .dict => .type "dict" | .int => .type "int" | .abs => .builtin "abs"
  | .max2 => .builtin "max" | .min2 => .builtin "min" | .sum => .builtin "sum" | .max1 => .builtin "max" | .min1 => .builtin "min"
theorem few_syn (es : Es) (pos : Pos) (env : PySem.Env) (h : es.len < 30) : ((backTo pos (starEach es.syn env)).all (fun x => !x.1) && (backToKw pos (keywordEach [] env)).all (fun x => x.1.isSome) && decide (es.syn.length + ([] : List Keyword).length + (if ([] : List Keyword).isEmpty then 0 else 1) < 30)) = true := by
  have h1 : (backTo pos (starEach es.syn env)).all (fun x => !x.1) = true := by
    have z := plain_syn es pos env
    rw [List.any_eq_false] at z
    rw [List.all_eq_true]
    intro x hx
    simpa using z x hx
  rw [h1, Es.syn_len]
  simp only [List.isEmpty_nil, if_true, List.length_nil, Nat.add_zero, h, decide_true, Bool.and_true]
  rfl
section
variable {X : Cx}
theorem b_call {E : XK} {mf : Bool} (hu : X.A.units + 100 < cLine) (b : Bi) (hc : X.calm = true ∨ b.hot = true) : CallR X b.val (rC X.prog X.w X.K E (bifW b mf)) := by
  cases b with
  | len => exact b_len
  | all => exact b_all (hc.elim id fun z => by cases z)
  | any => exact b_any (hc.elim id fun z => by cases z)
  | tuple => exact b_tuple
  | list => exact b_list
  | sorted => exact b_sorted hu
  | dict => exact b_dict (hc.elim id fun z => by cases z) hu
  | int => exact b_int
  | abs => exact b_abs
  | max2 => exact b_max2 (hc.elim id fun z => by cases z)
  | min2 => exact b_min2 (hc.elim id fun z => by cases z)
  | sum => exact b_sum (hc.elim id fun z => by cases z)
  | max1 =>
    intro pins s σ H xs us Q I r hyp
    obtain ⟨F, m, h, ws, sep, rs, p⟩ := hyp
    unfold bifW at p
    split at p <;> first | cases ‹Bi.max1 = _› | exact p.elim
  | min1 =>
    intro pins s σ H xs us Q I r hyp
    obtain ⟨F, m, h, ws, sep, rs, p⟩ := hyp
    unfold bifW at p
    split at p <;> first | cases ‹Bi.min1 = _› | exact p.elim
variable (C : Ct) (W : WX) (hx : HX) {T : Tab} {k : Kx} (G : Gd T C k hx X W)
include G
theorem free_of {x : Str} (c : freeB T k x = true) : Gl X x ∧ X.mg x = none ∧ (x == ("__debug__" : Str)) = false ∧ x ≠ "__name__" := by
  unfold freeB at c
  simp only [Bool.and_eq_true] at c
  obtain ⟨c1, c2⟩ := c
  obtain ⟨g1, g2, g3⟩ := gl_of C W hx G c1
  exact ⟨g1, G.fr x (by simpa using c2), g2, g3⟩
section
variable {a b : E} {es : Es} {p0 p1 p : Pos}
theorem s_fld {f : Str} (c : dotB a = true) (ha : PE X a.syn (rE X C W hx a)) : PE X (E.fld a f p).syn (rE X C W hx (.fld a f p)) := by
  refine pe_of (pe_fld ha (base_syn a f X.env c)) fun σ H Q ⟨F, m, h, env, sep, en, q⟩ => ?_
  unfold evE at q
  refine eE sep en q fun w1 h1 v1 F1 m1 H1 t1 s1 e1 r1 p1 => ?_
  split at p1
  · rename_i n
    split at p1
    · rename_i c' fs eo
      split at p1
      · rename_i cc
        split at p1
        · rename_i u el
          cases r1 with
          | @r _ l ea =>
            obtain ⟨f0, dx, vs, eH, rr⟩ := s1.ins ea eo
            obtain ⟨k1, k2⟩ := G.at_ _ _ cc
            rcases RF.look (f := f) rr with ⟨z, _⟩ | ⟨u', v, z, lk, rv⟩
            · rw [el] at z; cases z
            · rw [el] at z
              cases z
              exact ⟨l, _, dx, vs, v, rfl, eH, k1, k2, lk, p1.here s1 rv⟩
        · exact p1.elim
      · exact p1.elim
    · exact p1.elim
  · exact p1.elim
theorem s_exf {i : Nat} {x f : Str} {p' : Pos} (c1 : visB k i x = true) (c2 : k.xv = some i) : PE X (E.exf i x f p' p).syn (rE X C W hx (.exf i x f p' p)) := by
  unfold visB nameB at c1
  simp only [Bool.and_eq_true, Bool.or_eq_true, decide_eq_true_eq, Bool.not_eq_true'] at c1
  obtain ⟨c1, ⟨c2, c3, c4⟩, c5⟩ := c1
  refine ⟨fun pins s σ H Q I ⟨F, m, h, env, sep, en, q⟩ => ?_⟩
  unfold evE at q
  split at q
  · rename_i g y e
    split at q
    · rename_i eg
      subst eg
      obtain ⟨a, Ca, dd, z, h1, h2, h3, h4, h5⟩ := en.at_ i _ e
      have hv : PE X (.Name x p') (tVar i) := pe_var (by rw [G.hN]; exact c1) (by rw [G.sc]; exact c5) c2 c3
      refine (G.xf i a Ca dd h1 (.Name x p') (tVar i) g p h5 hv rfl).run pins s σ H Q I ⟨.ref a, ?_, rfl, rfl, dd, _, z, rfl, sep.sub _ _ h3, by simp, q.rok sep h4⟩
      cases e2 : σ[i]? with
      | none => rw [e2] at h2; cases h2
      | some o => rw [e2] at h2; exact congrArg some h2
    · exact q.elim
  · exact q.elim
theorem s_bif {bi : Bi} {mf : Bool} (c1 : freeB T k bi.name = true) (c2 : k.calm = true ∨ bi.hot = true) (c3 : es.len = bi.ar) (ha : PA X es.syn (rEs X C W hx es)) : PE X (E.bif bi mf es p0 p).syn (rE X C W hx (.bif bi mf es p0 p)) := by
  obtain ⟨g1, g2, g3, g4⟩ := free_of C W hx G c1
  cases es with
  | nil => cases bi <;> cases c3
  | cons a r =>
    refine ⟨fun pins s σ H Q I ⟨F, m, h, env, sep, en, q⟩ => ?_⟩
    have hb := b_call (E := fun c d H' => W c d σ H') (mf := mf) G.hu bi (c2.imp G.calm id)
    have red : ∀ {R : List V → Hp → VK → Prop}, (∀ vs H1, (∃ F1 m1 h1 ws, Sep X.prog X.w X.K m1 F1 h1 H1 ∧ RWs X.prog X.w X.K m1 F1 vs ws ∧ Post X.prog X.w X.K (RW X.prog X.w X.K) (fun c d H' => W c d σ H') F1 m1 H1 (bifW bi mf ws h1) Q) → R vs H1 Q) → tCB R (rEs X C W hx (.cons a r)) σ H Q := fun {R} g => by
      unfold evE at q
      exact eEs sep en q fun w1 h1 v1 F1 m1 H1 t1 s1 e1 r1 p1 => g v1 H1 ⟨F1, m1, h1, w1, s1, r1, p1⟩
    cases bi with
    | tuple => exact (pe_callTy hb g1 g2 rfl ha g4 g3 (star_syn a r.syn X.env) (plain_syn r p X.env)).run pins s σ H Q I (red fun vs H1 z => z)
    | list => exact (pe_callTy hb g1 g2 rfl ha g4 g3 (star_syn a r.syn X.env) (plain_syn r p X.env)).run pins s σ H Q I (red fun vs H1 z => z)
    | dict => exact (pe_callTy hb g1 g2 rfl ha g4 g3 (star_syn a r.syn X.env) (plain_syn r p X.env)).run pins s σ H Q I (red fun vs H1 z => z)
    | int => exact (pe_callTy hb g1 g2 rfl ha g4 g3 (star_syn a r.syn X.env) (plain_syn r p X.env)).run pins s σ H Q I (red fun vs H1 z => z)
    | _ => exact (pe_callB hb g1 g2 rfl ha g4 g3 (star_syn a r.syn X.env) (plain_syn r p X.env)).run pins s σ H Q I (red fun vs H1 z => z)
/-- len of an instance whose class has its own __len__ -/
theorem b_leni {n i : Nat} {fe : FEnt} {g : List Rf.W → Hs → Res Rf.W} {f : Addr} {fd : FuncData} {c : Str} (me : Meth X.K (He.ga X.K c) "__len__" f) (hr : Room (n + 1) X.A) (tk : Takes X W) (ok : FnX T X n i fe g f fd) (hl : fe.ps.length = 1)
    {pins : List (Addr × Obj)} {s : Shared} {σ : L2.St} {H : Hp} {us : List Value} {xs : List V} {Q : VK} (I : L2.Inv X pins σ H s) (r : Vals xs us)
    (h : ∃ a dx fs, xs = [.ref a] ∧ H a = some (.ins (He.ga X.K c) dx fs) ∧ spG X.prog X.w X.K fe.ps.length g [.ref a] H (fun v H' => ∃ j : Int, v = .int j ∧ 0 ≤ j ∧ j < 2 ^ 63 ∧ Q (.int j) H') fun c d H' => W c d σ H') : wpAny (model X.prog X.w) X.A (call (.builtin "len") us) (EP X pins σ Q) X.xe s := by
  obtain ⟨a, dx, fs, rfl, ea, h⟩ := h
  obtain ⟨u, rfl, rx⟩ := vals1 r
  obtain rfl : u = Value.ref a := rx
  obtain ⟨mA, O, _⟩ := ins_get I.hok ea
  obtain ⟨od, J, _⟩ := O.look
  have sp : PySem.W.Looks (model X.prog X.w) s.heap (specialOf (.ref a) "__len__") (some (.ref f)) := J.type.andThen (PySem.W.looks_findIn I.kIn me.at_)
  have tf : PySem.W.Looks (model X.prog X.w) s.heap (typeOf (.ref f)) (.type "function") := PySem.W.looks_typeIn I.kIn (beq_iff_eq.mp me.fn)
  refine Calls.call_function_entry kind_len plain_len entry_len (args_len1 _) ?_
  unfold Builtin.«len»
  refine wpAny_bind (m := oneArg "len" _) (wpAny_pure ?_)
  refine wpAny_bind (m := callSpecial? (.ref a) (Str.ofString "__len__")) ?_
  simp only [callSpecial?]
  refine wpAny_bind (sp.here ?_)
  refine wpAny_holding (wpAny_bind ?_)
  unfold bindSpecial
  refine wpAny_bind (tf.here ?_)
  rw [if_pos (by decide)]
  refine wpAny_pure (wpAny_bind ?_)
  have bt : BindsTo s fd ⟨[.ref a], []⟩ (fe.ps.zip [.ref a]) := by
    have z := ok.bd.pos s [.ref a] I.kIn (by rw [hl]; rfl)
    simpa using z
  refine wpAny_call (codeAny_mono (ok.ok.run X.A.in1 X.stack s H ⟨[.ref a], []⟩ [.ref a] [.ref a] _ _ hr.in1 I.env0.in1 bt (.cons (show L2.RelV (.ref a) (.ref a) from rfl) .nil) h) fun r s' hq => ?_)
  cases r with
  | error e => exact tk e s' (XE.of_call I (fun _ _ _ h => h) hq)
  | ok fl =>
    cases fl with
    | ret u =>
      obtain ⟨v, H', I', rv, j, rfl, h0, h1, q⟩ := I.after hq
      obtain ⟨t, rfl⟩ : ∃ t, u = Value.int j t := rv
      refine wpAny_pure ?_
      refine wpAny_bind (wpAny_holding (wpAny_pure ?_))
      refine wpAny_bind (wpAny_letGo ?_)
      show wpAny _ _ (if j < 0 then _ else _) _ _ _
      rw [if_neg (by omega)]
      show wpAny _ _ (if j ≥ 2 ^ 63 then _ else _) _ _ _
      rw [if_neg (by omega)]
      exact wpAny_bind (wpAny_mkInt (wpAny_pure ⟨_, rfl, .int j, H', I'.tok _, ⟨_, rfl⟩, q⟩))
    | next => exact hq.elim
    | brk => exact hq.elim
    | cont => exact hq.elim
theorem s_leni {f : Nat} {c : Str} (c1 : freeB T k "len" = true) (c2 : callB T k (some c) "__len__" f 0 [] [] = true) (ha : PE X a.syn (rE X C W hx a)) : PE X (E.leni f c a p0 p).syn (rE X C W hx (.leni f c a p0 p)) := by
  obtain ⟨g1, g2, g3, g4⟩ := free_of C W hx G c1
  unfold callB at c2
  simp only [Bool.and_eq_true] at c2
  obtain ⟨c3, c2⟩ := c2
  split at c2
  · rename_i fe ef
    simp only [Bool.and_eq_true, decide_eq_true_eq, Option.isSome_some, if_true] at c2
    obtain ⟨k1, k2, k3⟩ := c2
    obtain ⟨n, fa, fd, me, hr, ok⟩ := G.sp c3 f fe c ef k1
    rw [← k2] at me
    have hl : fe.ps.length = 1 := by
      unfold kwB at k3
      simp at k3
      exact k3.symm
    refine ⟨fun pins s σ H Q I ⟨F, m, h, env, sep, en, q⟩ => ?_⟩
    unfold evE at q
    refine wpAny_Call_Name_kw (ld_blt I g1 g2 rfl ?_ g4 g3)
    refine PyProof.Rows.callWith_builtin1 (thn ((pa_cons ha pa_nil (star_syn a _ X.env)).run p pins s σ H (fun vs H1 => ∃ l dx fs, vs = [.ref l] ∧ H1 l = some (.ins (He.ga X.K c) dx fs) ∧ spG X.prog X.w X.K fe.ps.length (C.sp f) [.ref l] H1 (fun v H' => ∃ j : Int, v = .int j ∧ 0 ≤ j ∧ j < 2 ^ 63 ∧ Q (.int j) H') fun c d H' => W c d σ H') I ?_) fun us s1 ⟨vs, H1, I1, r1, q1⟩ => b_leni C W hx G me hr G.tk ok hl I1 r1 q1) (star_syn a _ X.env) (by rfl)
    refine eE sep en q fun w1 h1 v1 F1 m1 H1 t1 s1 e1 r1 p1 => ?_
    split at p1
    · rename_i n'
      split at p1
      · rename_i c' fs eo
        split at p1
        · rename_i cc
          subst cc
          cases r1 with
          | @r _ l el =>
            obtain ⟨f0, dx, vs, eH, rr⟩ := s1.ins el eo
            refine ⟨l, dx, vs, rfl, eH, by rw [hl]; rfl, F1, m1, h1, [.r n'], s1, .cons (.r el) .nil, ?_⟩
            refine Post.bind p1 fun u h2 v F2 m2 H2 eu t2 s2 r2 p2 => ?_
            split at p2
            · rename_i j
              split at p2
              · rename_i hj
                cases r2 with
                | d r2 =>
                  cases r2
                  exact ⟨j, rfl, hj.1, hj.2, p2.rok s2 (.int j)⟩
              · exact p2.elim
            · exact p2.elim
        · exact p1.elim
      · exact p1.elim
    · exact p1.elim
  · cases c2
theorem s_isi {t : Ty} (c1 : freeB T k "isinstance" = true) (c2 : freeB T k t.name = true) (ha : PE X a.syn (rE X C W hx a)) : PE X (E.isi a t p1 p0 p).syn (rE X C W hx (.isi a t p1 p0 p)) := by
  obtain ⟨g1, g2, g3, g4⟩ := free_of C W hx G c1
  obtain ⟨f1, f2, f3, f4⟩ := free_of C W hx G c2
  have ht : PE X (.Name t.name p1) (tC (.ty t.s)) := pe_bltn f1 f2 (by cases t <;> rfl) (show L2.RelV (.ty t.s) (.type t.s) from rfl) f4 f3
  refine pe_of (pe_callB (r := rIW X.prog X.w X.K t) b_isi g1 g2 rfl (pa_cons ha (pa_cons ht pa_nil (by rfl)) (star_syn a _ X.env)) g4 g3 (star_syn a _ X.env) (by rfl)) fun σ H Q ⟨F, m, h, env, sep, en, q⟩ => ?_
  unfold evE at q
  refine eE sep en q fun w1 h1 v1 F1 m1 H1 t1 s1 e1 r1 p1 => ?_
  split at p1
  · rename_i b eb
    exact ⟨F1, m1, h1, w1, v1, b, rfl, s1, r1, eb, p1.rok s1 (.bl b)⟩
  · exact p1.elim
omit G in
theorem s_mth {mt : Mt} (c1 : dotB a = true) (c2 : (p1.endLine == p.line) = true) (c3 : es.len < 30) (hu : X.A.units + 100 < cLine) (ho : PE X a.syn (rE X C W hx a)) (ha : PA X es.syn (rEs X C W hx es)) : PE X (E.mth mt a es p1 p).syn (rE X C W hx (.mth mt a es p1 p)) := by
  refine ⟨fun pins s σ H Q I ⟨F, m, h, env, sep, en, q⟩ => ?_⟩
  unfold evE at q
  refine wpAny_Call_method_late (base_syn a mt.name X.env c1) (few_syn es p X.env c3) c2 rfl (thn (ho.run pins s σ H (fun x H1 => ∃ T id F1 m1 h1 w1, kT (kindW w1 h1) = some T ∧ mtId mt T = some id ∧ Sep X.prog X.w X.K m1 F1 h1 H1 ∧ RW X.prog X.w X.K m1 F1 x w1 ∧
    rEs X C W hx es σ H1 (fun vs H2 => rM X.prog X.w X.K (fun c d H' => W c d σ H') mt T x vs H2 Q)) I ?_) fun u s1 ⟨x, H1, I1, rx, T, id, F1, m1, h1, w1, eT, eI, sep1, rw1, q1⟩ => ?_)
  · refine eE sep en q fun w1 h1 v1 F1 m1 H1 t1 s1 e1 r1 p1 => ?_
    split at p1
    · rename_i hk
      obtain ⟨T, id, eT, eI⟩ := mt_kind hk
      refine ⟨T, id, F1, m1, h1, w1, eT, eI, s1, r1, ?_⟩
      refine eEs s1 e1 p1 fun w2 h2 v2 F2 m2 H2 t2 s2 e2 r2 p2 => ?_
      split at p2
      · rename_i ek
        exact ⟨F2, m2, h2, w1, w2, s2, r1.stp t2, r2, by rw [kind_eq, ek]; exact eT, p2⟩
      · exact p2.elim
    · exact p1.elim
  · obtain ⟨pa, slot, hty⟩ := mt_facts eI
    obtain ⟨k1, k2⟩ := kind_at I1 sep1 rw1 rx (by rw [kind_eq]; exact eT)
    have hm := m_all (E := fun c d H' => W c d σ H') hu eI
    refine ⟨T, id, pa, slot, hty, k1, k2, ?_⟩
    cases es with
    | nil =>
      have go : ∀ {Q' : List V → Hp → Prop}, rEs X C W hx .nil σ H1 Q' → Q' [] H1 := fun {Q'} ⟨F, m, h, env, sep, en, q⟩ => by
        unfold evEs at q
        exact q.ok_rel sep .nil
      exact Calls.callWith_builtin rfl (PySem.evalArgs_none (hm pins s1 σ H1 x [] u [] Q I1 rx .nil (go q1)))
    | cons b r =>
      have hA := ha.run p pins s1 σ H1 _ I1 q1
      have hst : starEach (Es.cons b r).syn X.env = (false, eval b.syn X.env) :: starEach r.syn X.env := star_syn b r.syn X.env
      rw [hst] at hA ⊢
      refine Calls.callWith_builtin (by show (false || (backTo p (starEach r.syn X.env)).any (·.1)) = false; rw [plain_syn]; rfl) (Calls.evalArgs_plain ?_)
      exact thn hA fun us s2 ⟨vs, H2, I2, r2, q2⟩ => hm pins s2 σ H2 x vs u us Q I2 rx r2 q2
end
end
end Rf
/-! Targets run as they mean. -/
namespace Rf
open PySem PySem.Spec PyProof.Rows L2
/-- σ' is σ but for the slots vs -/
structure Same (vs : List Nat) (σ σ' : L2.St) : Prop where
  len : σ'.length = σ.length
  at_ : ∀ j, j ∉ vs → σ'[j]? = σ[j]?
theorem Same.refl (vs : List Nat) (σ : L2.St) : Same vs σ σ := ⟨rfl, fun _ _ => rfl⟩
theorem Same.trans {vs us : List Nat} {σ σ1 σ2 : L2.St} (a : Same vs σ σ1) (b : Same us σ1 σ2) : Same (vs ++ us) σ σ2 :=
  ⟨b.len.trans a.len, fun j hj => (b.at_ j fun z => hj (List.mem_append_right _ z)).trans (a.at_ j fun z => hj (List.mem_append_left _ z))⟩
theorem Same.mono {vs us : List Nat} {σ σ1 : L2.St} (a : Same vs σ σ1) (h : ∀ i ∈ vs, i ∈ us) : Same us σ σ1 := ⟨a.len, fun j hj => a.at_ j fun z => hj (h j z)⟩
theorem wipe_at (σ : L2.St) : ∀ (vs : List Nat) (j : Nat), (L2.wipe σ vs)[j]? = if j ∈ vs then σ[j]?.map (fun _ => none) else σ[j]?
  | [], j => by simp [L2.wipe]
  | v :: vs, j => by
    show ((L2.wipe σ vs).set v none)[j]? = _
    by_cases hj : j = v
    · subst hj
      rw [if_pos (List.mem_cons_self ..)]
      by_cases hl : j < σ.length
      · rw [List.getElem?_set_self (by rw [wipe_length]; exact hl), List.getElem?_eq_getElem hl]
        rfl
      · rw [List.getElem?_eq_none (by rw [List.length_set, wipe_length]; exact Nat.le_of_not_lt hl), List.getElem?_eq_none (Nat.le_of_not_lt hl)]
        rfl
    · rw [List.getElem?_set_ne (Ne.symm hj), wipe_at σ vs j]
      by_cases hm : j ∈ vs
      · rw [if_pos hm, if_pos (List.mem_cons_of_mem _ hm)]
      · rw [if_neg hm, if_neg (fun z => (List.mem_cons.mp z).elim hj hm)]
theorem Same.wiped {vs us : List Nat} {σ σ1 : L2.St} (a : Same vs (L2.wipe σ us) σ1) (h : ∀ i ∈ vs, i ∈ us) : L2.wipe σ1 us = L2.wipe σ us := by
  refine List.ext_getElem? fun j => ?_
  rw [wipe_at, wipe_at]
  by_cases hj : j ∈ us
  · rw [if_pos hj, if_pos hj]
    have hl : σ1.length = σ.length := a.len.trans (wipe_length σ us)
    by_cases hlt : j < σ.length
    · rw [List.getElem?_eq_getElem hlt, List.getElem?_eq_getElem (by rw [hl]; exact hlt)]
      rfl
    · rw [List.getElem?_eq_none (Nat.le_of_not_lt hlt), List.getElem?_eq_none (by rw [hl]; exact Nat.le_of_not_lt hlt)]
  · rw [if_neg hj, if_neg hj, a.at_ j fun z => hj (h j z), wipe_at, if_neg hj]
theorem Post.of_nx {α β : Type} {P : Program} {w : World} {K : PySem.W.Frag} {R : List Addr → Hp → β → α → Prop} {E E' : XK} {F H : Hp} {m : List Addr} {r : Res α} {Q : β → Hp → Prop} (p : Post P w K R E' F m H r.nx Q) : Post P w K R E F m H r Q := by
  cases r with
  | ok a h => exact p
  | ex x h => exact p.elim
  | no => exact p
theorem Post.swap {α β : Type} {P : Program} {w : World} {K : PySem.W.Frag} {R : List Addr → Hp → β → α → Prop} {E E' : XK} {F H : Hp} {m : List Addr} {r : Res α} {Q : β → Hp → Prop} (p : Post P w K R E' F m H r.nx Q) : Post P w K R E F m H r.nx Q := by
  cases r with
  | ok a h => exact p
  | ex x h => exact p.elim
  | no => exact p
theorem nx_bd {α β : Type} (r : Res α) (k : α → Hs → Res β) : (r.bd k).nx = r.nx.bd fun a h => (k a h).nx := by
  cases r <;> rfl
theorem bd_nx {α β : Type} (r : Res α) (k : α → Hs → Res β) : r.nx.bd (fun a h => (k a h).nx) = (r.bd k).nx := (nx_bd r k).symm
section
variable {X : Cx} {C : Ct} {W : WX} {hx : HX} {σ : L2.St} {env : Env} {F H : Hp} {m : List Addr} {h : Hs}
/-- an expression of which nothing comes but a value -/
theorem eEn {γ δ : Type} {R' : List Addr → Hp → δ → γ → Prop} {Z : XK} {e : E} {k : Rf.W → Hs → Res γ} {Q : δ → Hp → Prop} {Q' : VK} (sep : Sep X.prog X.w X.K m F h H) (en : Envs X.prog X.w X.K hx m F σ env) (p : Post X.prog X.w X.K R' Z F m H ((evE C e env h).bd k).nx Q)
    (g : ∀ a h' b F' m' H', Stp F m H F' m' H' → Sep X.prog X.w X.K m' F' h' H' → Envs X.prog X.w X.K hx m' F' σ env → RW X.prog X.w X.K m' F' b a → Post X.prog X.w X.K R' Z F' m' H' (k a h').nx Q → Q' b H') : rE X C W hx e σ H Q' := by
  rw [nx_bd] at p
  refine ⟨F, m, h, env, sep, en, Post.of_nx (E' := Z) ?_⟩
  exact Post.bind p fun a h' b F' m' H' _ t s r q => g a h' b F' m' H' t s (en.stp t) r q
def asI (C : Ct) (t : Tg) (x : Itm) (e : Env) (h : Hs) : Res Env := x.by (fun w => asW C t w e h) fun w v => asP C t w v e h
abbrev TgR (X : Cx) (hx : HX) (vs : List Nat) (σ : L2.St) : List Addr → Hp → L2.St → Env → Prop := fun m F σ' e' => Envs X.prog X.w X.K hx m F σ' e' ∧ Same vs σ σ'
def rG (X : Cx) (C : Ct) (hx : HX) (t : Tg) : TG := fun v σ H Q => ∃ F m h env x, Sep X.prog X.w X.K m F h H ∧ Envs X.prog X.w X.K hx m F σ env ∧ ItR X.prog X.w X.K m F H v x ∧ Post X.prog X.w X.K (TgR X hx (tvs t) σ) E0 F m H (asI C t x env h).nx Q
def rGs (X : Cx) (C : Ct) (hx : HX) (ts : Tgs) : TGs := fun vs σ H Q => ∃ F m h env xs, Sep X.prog X.w X.K m F h H ∧ Envs X.prog X.w X.K hx m F σ env ∧ RWs X.prog X.w X.K m F vs xs ∧ Post X.prog X.w X.K (TgR X hx (tvss ts) σ) E0 F m H (asWs C ts xs env h).nx Q
theorem pg_of {e : Expr} {t t' : TG} (q : PG X e t) (g : ∀ v σ H Q, t' v σ H Q → t v σ H Q) : PG X e t' := ⟨fun pins s σ H v u Q I r hq => q.run pins s σ H v u Q I r (g v σ H Q hq)⟩
theorem pgs_of {e : List Expr} {t t' : TGs} (q : PGs X e t) (g : ∀ v σ H Q, t' v σ H Q → t v σ H Q) : PGs X e t' := ⟨fun pins s σ H v u Q I r hq => q.run pins s σ H v u Q I r (g v σ H Q hq)⟩
variable (C W hx) {T : Tab} {k : Kx} (G : Gd T C k hx X W)
include G in
theorem g_var {i : Nat} {x : Str} {p : Pos} (c : locB k i x = true) : PG X (Tg.var i x p).syn (rG X C hx (.var i x p)) := by
  unfold locB at c
  simp only [Bool.and_eq_true, Bool.or_eq_true, decide_eq_true_eq] at c
  obtain ⟨c1, c2⟩ := c
  have hl : Loc X.env.scope x := by
    rw [G.sc]
    exact c2.elim .inl fun z => .inr z.1
  have hf : X.fn x = true ∨ X.env.scope.names.lookup x = some .local := by
    rw [G.sc]
    exact c2.elim .inr fun z => .inl (G.fc x z.2)
  refine pg_of (pg_name (by exact G.nd) (by rw [G.hN]; exact c1) hl hf) fun v σ H Q ⟨F, m, h, env, x, sep, en, r, p⟩ => ?_
  cases x with
  | one w =>
    unfold asI Itm.by at p
    simp only [asW] at p
    refine p.ok_rel sep ⟨en.set r, by simp, fun j hj => ?_⟩
    rw [List.getElem?_set_ne (fun z => hj (by rw [← z]; exact List.mem_cons_self ..))]
  | two a b =>
    unfold asI Itm.by at p
    simp only [asP] at p
    exact p.elim
theorem gs_nil : PGs X (Tgs.nil).syn (rGs X C hx .nil) := pgs_of pgs_nil fun v σ H Q ⟨F, m, h, env, xs, sep, en, r, p⟩ => by
  unfold asWs at p
  split at p
  · cases r
    exact ⟨rfl, p.ok_rel sep ⟨en, Same.refl _ _⟩⟩
  · exact p.elim
theorem each_syn (t : Tg) (r : List Expr) (env : PySem.Env) : assignEach (t.syn :: r) env = (false, assign t.syn env) :: assignEach r env := by
  cases t <;> rfl
theorem gs_cons {t : Tg} {r : Tgs} (h1 : PG X t.syn (rG X C hx t)) (h2 : PGs X r.syn (rGs X C hx r)) : PGs X (Tgs.cons t r).syn (rGs X C hx (.cons t r)) := pgs_of (pgs_cons h1 h2 (by rw [each_syn]; rfl)) fun v σ H Q ⟨F, m, h, env, xs, sep, en, rr, p⟩ => by
  unfold asWs at p
  cases xs with
  | nil => exact p.elim
  | cons x xs =>
    cases rr with
    | @cons v _ vr _ r1 r2 =>
      refine ⟨_, _, rfl, F, m, h, env, .one x, sep, en, r1, ?_⟩
      have p' : Post X.prog X.w X.K (TgR X hx (tvss (.cons t r)) σ) E0 F m H ((asW C t x env h).bd fun e1 h1 => asWs C r xs e1 h1).nx Q := p
      rw [nx_bd] at p'
      show Post X.prog X.w X.K (TgR X hx (tvs t) σ) E0 F m H (asW C t x env h).nx _
      refine Post.bind p' fun e1 h1 σ1 F1 m1 H1 _ t1 s1 q1 p1 => ?_
      refine ⟨F1, m1, h1, e1, xs, s1, q1.1, RWs.stp t1 r2, ?_⟩
      cases er : (asWs C r xs e1 h1).nx with
      | no => rw [er] at p1; exact p1
      | ex y z => rw [er] at p1; exact p1
      | ok e2 h2 =>
        rw [er] at p1
        intro σ2 F2 m2 H2 t2 s2 q2
        exact p1 σ2 F2 m2 H2 t2 s2 ⟨q2.1, q1.2.trans q2.2⟩
theorem each_len : ∀ (ts : Tgs) (env : PySem.Env), ∃ n, (assignEach ts.syn env).length = n ∧ (assignEach ts.syn env).findIdx? (·.1) = none ∧ ∀ (C : Ct) ws e h e' h', (asWs C ts ws e h) = .ok e' h' → ws.length = n
  | .nil, env => ⟨0, rfl, rfl, fun C ws e h e' h' q => by
    unfold asWs at q
    split at q
    · rfl
    · cases q⟩
  | .cons t r, env => by
    obtain ⟨n, h1, h2, h3⟩ := each_len r env
    refine ⟨n + 1, ?_, ?_, fun C ws e h e' h' q => ?_⟩
    · show (assignEach (t.syn :: r.syn) env).length = _
      rw [each_syn, List.length_cons, h1]
    · show (assignEach (t.syn :: r.syn) env).findIdx? (·.1) = none
      rw [each_syn, List.findIdx?_cons, h2]
      rfl
    · unfold asWs at q
      cases ws with
      | nil => cases q
      | cons x xs =>
        obtain ⟨_, _, _, q⟩ := Res.bd_ok q
        rw [List.length_cons, h3 C xs _ _ _ _ q]
theorem Post.nx_ok {α β : Type} {P : Program} {w : World} {K : PySem.W.Frag} {R : List Addr → Hp → β → α → Prop} {E : XK} {F H : Hp} {m : List Addr} {r : Res α} {Q : β → Hp → Prop} (p : Post P w K R E F m H r.nx Q) : ∃ a h, r = .ok a h := by
  cases r with
  | ok a h => exact ⟨a, h, rfl⟩
  | ex x h => exact p.elim
  | no => exact p.elim
theorem g_tup {ts : Tgs} {kk : Nat} {p : Pos} (hc : X.calm = true) (hs : PGs X ts.syn (rGs X C hx ts)) : PG X (Tg.tup ts kk p).syn (rG X C hx (.tup ts kk p)) := by
  obtain ⟨n, l1, l2, l3⟩ := each_len ts X.env
  refine ⟨fun pins s σ H v u Q I ru ⟨F, m, h, env, x, sep, en, r, q⟩ => ?_⟩
  have goT : ∀ {a : Addr} {vs : List V} {ws : List Rf.W}, v = .ref a → SqT X.K H a vs → RWs X.prog X.w X.K m F vs ws → Post X.prog X.w X.K (TgR X hx (tvss ts) σ) E0 F m H (asWs C ts ws env h).nx Q →
      wpAny (model X.prog X.w) X.A (assign (Tg.tup ts kk p).syn X.env u) (fun _ s' => ∃ σ' H', L2.Inv X pins σ' H' s' ∧ Q σ' H') X.xe s := fun {a vs ws} e1 e2 e3 e4 => by
    obtain ⟨e', h', eo⟩ := e4.nx_ok
    refine (pg_tup hc hs l1 l2).run pins s σ H v u Q I ru ⟨a, vs, e1, e2, ?_, F, m, h, env, ws, sep, en, e3, e4⟩
    rw [RWs.length e3, l3 C ws _ _ _ _ eo]
  have goL : ∀ {a : Addr} {vs : List V} {ws : List Rf.W}, v = .ref a → SqL X.K H a vs → RWs X.prog X.w X.K m F vs ws → Post X.prog X.w X.K (TgR X hx (tvss ts) σ) E0 F m H (asWs C ts ws env h).nx Q →
      wpAny (model X.prog X.w) X.A (assign (Tg.tup ts kk p).syn X.env u) (fun _ s' => ∃ σ' H', L2.Inv X pins σ' H' s' ∧ Q σ' H') X.xe s := fun {a vs ws} e1 e2 e3 e4 => by
    obtain ⟨e', h', eo⟩ := e4.nx_ok
    refine (pg_lst hc hs l1 l2).run pins s σ H v u Q I ru ⟨a, vs, e1, e2, ?_, F, m, h, env, ws, sep, en, e3, e4⟩
    rw [RWs.length e3, l3 C ws _ _ _ _ eo]
  cases x with
  | one w =>
    have q' : Post X.prog X.w X.K (TgR X hx (tvss ts) σ) E0 F m H (asW C (.tup ts kk p) w env h).nx Q := q
    unfold asW at q'
    split at q'
    · rename_i t ws es
      obtain ⟨a, vs, rfl, rv, kd⟩ := sq_at sep r es
      rcases kd with ⟨_, kd⟩ | ⟨_, kd⟩
      · exact goT rfl (sqT_mono sep.sub kd.sq) rv q'
      · exact goL rfl (.inl kd) rv q'
    · exact q'.elim
  | two a b =>
    obtain ⟨l, va, vb, e1, e2, ra, rb⟩ := r
    have q' : Post X.prog X.w X.K (TgR X hx (tvss ts) σ) E0 F m H (asP C (.tup ts kk p) a b env h).nx Q := q
    refine goT (ws := [a, b]) e1 e2 (.cons ra (.cons rb .nil)) ?_
    have eqp : (asP C (.tup ts kk p) a b env h).nx = (asWs C ts [a, b] env h).nx ∨ (asP C (.tup ts kk p) a b env h) = .no := by
      cases ts with
      | nil => right; simp only [asP]
      | cons t r =>
        cases r with
        | nil => right; simp only [asP]
        | cons t2 r =>
          cases r with
          | cons _ _ => right; simp only [asP]
          | nil =>
            left
            simp only [asP, asWs]
            congr 1
            congr 1
            funext e1 h1
            cases asW C t2 b e1 h1 <;> rfl
    rcases eqp with z | z
    · rw [← z]; exact q'
    · rw [z] at q'
      exact q'.elim
theorem g_sub {a b : E} {p : Pos} (hu : X.A.units + 100 < cLine) (ha : PE X a.syn (rE X C W hx a)) (hb : PE X b.syn (rE X C W hx b)) : PG X (Tg.sub a b p).syn (rG X C hx (.sub a b p)) := pg_of (pg_sub ha hb (set_W hu) (by cases b <;> intro _ <;> rfl)) fun v σ H Q ⟨F, m, h, env, x, sep, en, r, q⟩ => by
  cases x with
  | two _ _ =>
    unfold asI Itm.by at q
    simp only [asP] at q
    exact q.elim
  | one w =>
    have q' : Post X.prog X.w X.K (TgR X hx [] σ) E0 F m H (asW C (.sub a b p) w env h).nx Q := q
    unfold asW at q'
    refine eEn sep en q' fun w1 h1 v1 F1 m1 H1 t1 s1 e1 r1 p1 => ?_
    refine eEn s1 e1 p1 fun w2 h2 v2 F2 m2 H2 t2 s2 e2 r2 p2 => ?_
    have r3 : RW X.prog X.w X.K m2 F2 v w := RW.stp t2 (RW.stp t1 r)
    split at p2
    · rename_i h3 eh
      exact ⟨F2, m2, h2, w1, w2, w, h3, s2, r1.stp t2, r2, r3, eh, fun H' t s' => p2 σ _ _ _ t s' ⟨e2.stp t, Same.refl _ _⟩⟩
    · exact p2.elim
include G in
theorem g_fld {a : E} {f : Str} {p : Pos} (ha : PE X a.syn (rE X C W hx a)) : PG X (Tg.fld a f p).syn (rG X C hx (.fld a f p)) := by
  refine ⟨fun pins s σ H v u Q I ru ⟨F, m, h, env, x, sep, en, r, q⟩ => ?_⟩
  cases x with
  | two _ _ =>
    unfold asI Itm.by at q
    simp only [asP] at q
    exact q.elim
  | one w =>
    have q' : Post X.prog X.w X.K (TgR X hx [] σ) E0 F m H (asW C (.fld a f p) w env h).nx Q := q
    unfold asW at q'
    rw [show (Tg.fld a f p).syn = .Attribute a.syn f p from rfl, PySem.assign_Attribute]
    refine wpAny_bind (wpAny_holding (thn (ha.run pins s σ H (fun x H1 => ∃ l c dx fs, x = .ref l ∧ H1 l = some (.ins (He.ga X.K c) dx fs) ∧ Cls X.K (He.ga X.K c) ∧ NoAttr X.K (He.ga X.K c) f ∧ fs.length < 1000 ∧ Q σ (upd H1 l (.ins (He.ga X.K c) dx (L2.putF f v fs)))) I (eEn sep en q' fun w1 h1 v1 F1 m1 H1 t1 s1 e1 r1 p1 => ?_)) fun ov s1 ⟨x, H1, I1, rx, l, c, dx, fs, ex, ea, k1, k2, hl, q1⟩ => ?_))
    · split at p1
      · rename_i h3 eh
        unfold setFd at eh
        split at eh
        · rename_i n
          split at eh
          · rename_i c fs eo
            split at eh
            · rename_i cc
              cases eh
              cases r1 with
              | @r _ l ea =>
                obtain ⟨f0, dx, vs, eH, rr⟩ := s1.ins ea eo
                obtain ⟨k1, k2⟩ := G.at_ _ _ cc.1
                have r3 : RW X.prog X.w X.K m1 F1 v w := RW.stp t1 r
                obtain ⟨t2, s2⟩ := s1.write (o := .ins (He.ga X.K c) dx (L2.putF f v vs)) (b := .ins c (Rf.putF fs f w)) ea f0 ⟨f0, dx, _, upd_same, RF.put r3 rr⟩
                have hlen : vs.length < 1000 := by
                  rw [RF.length rr]
                  omega
                exact ⟨l, c, dx, vs, rfl, eH, k1, k2, hlen, p1 σ _ _ _ t2 s2 ⟨e1.stp t2, Same.refl _ _⟩⟩
            · cases eh
          · cases eh
        · cases eh
      · exact p1.elim
    · subst ex
      obtain rfl : ov = Value.ref l := rx
      refine wpAny_bind (wpAny_standAt (wpAny_bind (wpAny_holding (setattr_ok I1 ea k1 k2 hl ru fun s2 I2 => ?_))))
      exact wpAny_release ⟨σ, _, I2, q1⟩
end
end Rf
/-! What loops walk, comprehensions: the cases. -/
namespace Rf
open PySem PySem.Spec PyProof.Rows L2
section
variable {X : Cx} (C : Ct) (W : WX) (hx : HX) {T : Tab} {k : Kx} (G : Gd T C k hx X W)
section
variable {a b : E} {es : Es} {p0 p1 p : Pos} {tg : Tg}
theorem i_exp (ha : PE X a.syn (rE X C W hx a)) : PI X tg.syn (It.exp a).syn (rI X C W hx (.exp a)) := by
  refine ⟨fun pins s σ H R I ⟨F, m, h, env, sep, en, q⟩ => ?_⟩
  unfold evI at q
  refine thn (ha.run pins s σ H (fun x H1 => ∃ F1 m1 h1 w1, Sep X.prog X.w X.K m1 F1 h1 H1 ∧ RW X.prog X.w X.K m1 F1 x w1 ∧ Post X.prog X.w X.K (Wk X.prog X.w X.K) (fun c d H' => W c d σ H') F1 m1 H1 (srcW w1 h1) R) I (eE sep en q fun w1 h1 v1 F1 m1 H1 t1 s1 e1 r1 p1 => ⟨F1, m1, h1, w1, s1, r1, p1⟩)) fun u s1 ⟨x, H1, I1, rx, F1, m1, h1, w1, sep1, rw1, p1⟩ => ?_
  exact iter_any I1 sep1 rw1 rx p1
include G
theorem i_rng (c : freeB T k "range" = true) (l : es.len = 1 ∨ es.len = 2) (ha : PA X es.syn (rEs X C W hx es)) : PI X tg.syn (It.rng es p0 p).syn (rI X C W hx (.rng es p0 p)) := by
  obtain ⟨g1, g2, g3, g4⟩ := free_of C W hx G c
  cases es with
  | nil => rcases l with l | l <;> cases l
  | cons a r =>
    cases r with
    | nil =>
      have hst : starEach [a.syn] X.env = [(false, eval a.syn X.env)] := star_syn a [] X.env
      refine ⟨fun pins s σ H R I ⟨F, m, h, env, sep, en, q⟩ => (pi_range1 g1 g2 ha hst).run pins s σ H R I ?_⟩
      unfold evI at q
      refine eEs' sep en q fun w1 h1 v1 F1 m1 H1 l1 t1 s1 e1 r1 p1 => ?_
      unfold rngW at p1
      split at p1
      · rename_i j
        obtain ⟨x, rfl, rx⟩ := rws1 r1
        cases rx with
        | d rx =>
          cases rx
          split at p1
          · rename_i lj
            have l1 : lim = 10000000 := rfl
            have e0 : (j - 0).toNat = j.toNat := by rw [Int.sub_zero]
            refine ⟨j, rfl, by omega, by omega, ?_⟩
            have wk := wk_rng (P := X.prog) (w := X.w) (K := X.K) (F := F1) (m := m1) (lo := 0) (hi := j)
            rw [e0] at wk
            exact p1 _ _ _ _ Stp.refl s1 wk
          · exact p1.elim
      · cases l1
      · exact p1.elim
    | cons b r =>
      cases r with
      | cons _ _ => rcases l with l | l <;> cases l
      | nil =>
        have hst : starEach [a.syn, b.syn] X.env = [(false, eval a.syn X.env), (false, eval b.syn X.env)] := by
          rw [star_syn, star_syn]
          rfl
        have hst2 : starEach [b.syn] X.env = [(false, eval b.syn X.env)] := star_syn b [] X.env
        refine ⟨fun pins s σ H R I ⟨F, m, h, env, sep, en, q⟩ => (pi_range2 g1 g2 ha hst hst2).run pins s σ H R I ?_⟩
        unfold evI at q
        refine eEs' sep en q fun w1 h1 v1 F1 m1 H1 l1 t1 s1 e1 r1 p1 => ?_
        unfold rngW at p1
        split at p1
        · cases l1
        · rename_i i j
          obtain ⟨x, y, rfl, rx, ry⟩ := rws2 r1
          cases rx with
          | d rx =>
            cases ry with
            | d ry =>
              cases rx
              cases ry
              split at p1
              · rename_i lj
                have l1 : lim = 10000000 := rfl
                exact ⟨i, j, rfl, ⟨by omega, by omega, by omega, by omega⟩, p1 _ _ _ _ Stp.refl s1 wk_rng⟩
              · exact p1.elim
        · exact p1.elim
theorem i_enu {ts : Tgs} {kk : Nat} {pt : Pos} (c : freeB T k "enumerate" = true) (ha : PE X a.syn (rE X C W hx a)) : PI X (Tg.tup ts kk pt).syn (It.enu a p0 p).syn (rI X C W hx (.enu a p0 p)) := by
  obtain ⟨g1, g2, g3, g4⟩ := free_of C W hx G c
  have hst : starEach [a.syn] X.env = [(false, eval a.syn X.env)] := star_syn a [] X.env
  refine ⟨fun pins s σ H R I ⟨F, m, h, env, sep, en, q⟩ => (pi_enum g1 g2 (pa_cons ha pa_nil (star_syn a [] X.env)) hst).run pins s σ H R I ?_⟩
  unfold evI at q
  refine eE sep en q fun w1 h1 v1 F1 m1 H1 t1 s1 e1 r1 p1 => ?_
  split at p1
  · cases r1 with
    | d r1 =>
      cases r1 with
      | lst rd rs => exact ⟨_, _, rfl, .inl (rd_mono s1.sub rd), p1 _ _ _ _ Stp.refl s1 (wk_enum rd rs)⟩
  · exact p1.elim
theorem i_zip {ts : Tgs} {kk : Nat} {pt : Pos} (c : freeB T k "zip" = true) (ha : PE X a.syn (rE X C W hx a)) (hb : PE X b.syn (rE X C W hx b)) : PI X (Tg.tup ts kk pt).syn (It.zip a b p0 p).syn (rI X C W hx (.zip a b p0 p)) := by
  obtain ⟨g1, g2, g3, g4⟩ := free_of C W hx G c
  refine ⟨fun pins s σ H R I ⟨F, m, h, env, sep, en, q⟩ => (RZ.pi_zipA g1 g2 (pa_cons ha (pa_cons hb pa_nil (star_syn b [] X.env)) (star_syn a _ X.env)) (star_syn a _ X.env) (plain_syn (.cons b .nil) p X.env)).run pins s σ H R I ?_⟩
  unfold evI at q
  refine eE sep en q fun w1 h1 v1 F1 m1 H1 t1 s1 e1 r1 p1 => ?_
  refine eE s1 e1 p1 fun w2 h2 v2 F2 m2 H2 t2 s2 e2 r2 p2 => ?_
  have r1' := r1.stp t2
  split at p2
  · cases r1' with
    | d r1' =>
      cases r2 with
      | d r2 =>
        cases r1' with
        | lst rd rs =>
          cases r2 with
          | lst rd2 rs2 => exact ⟨_, _, _, _, rfl, .inl ⟨.inl (rd_mono s2.sub rd), .inl (rd_mono s2.sub rd2), p2 _ _ _ _ Stp.refl s2 (wk_zipL rd rs rd2 rs2)⟩⟩
  · cases r1' with
    | d r1' =>
      cases r2 with
      | d r2 =>
        cases r1' with
        | tup rd rs =>
          cases r2 with
          | tup rd2 rs2 => exact ⟨_, _, _, _, rfl, .inr ⟨sqT_mono s2.sub rd.sq, sqT_mono s2.sub rd2.sq, p2 _ _ _ _ Stp.refl s2 (wk_zipT rd rs rd2 rs2)⟩⟩
  · exact p2.elim
omit G in
theorem i_vals (c1 : dotB a = true) (c2 : (p1.endLine == p.line) = true) (ha : PE X a.syn (rE X C W hx a)) : PI X tg.syn (It.vals a p1 p).syn (rI X C W hx (.vals a p1 p)) := by
  refine ⟨fun pins s σ H R I ⟨F, m, h, env, sep, en, q⟩ => ?_⟩
  unfold evI at q
  refine wpAny_Call_method (T := "dict") (id := "dict.values") (base_syn a "values" X.env c1) rfl c2 PySem.F.plainAttrs_dict PySem.F.slot_dict_values PySem.F.type_dict_values (thn (ha.run pins s σ H (fun x H1 => ∃ d xs ep vs, x = .ref d ∧ (d == sysModules) = false ∧ H1 d = some (tdic X.prog X.w d xs ep) ∧ Vals vs (xs.map fun x => x.2.2) ∧ R (Itdv X.prog X.w d xs ep vs) H1) I
    (eE sep en q fun w1 h1 v1 F1 m1 H1 t1 s1 e1 r1 p1 => ?_)) fun u s1 ⟨x, H1, I1, rx, d, xs, ep, vs, ex, ns, eH, hv, r⟩ => ?_)
  · unfold lockW at p1
    split at p1
    · rename_i n
      split at p1
      · rename_i lk kvs eo
        cases r1 with
        | @r _ d ea =>
          obtain ⟨_, ns, xs, ep, eH, _, nd, rr⟩ := s1.dct ea eo
          obtain ⟨vs, hv, rv⟩ := rr.vals
          obtain ⟨t2, s2⟩ := s1.lock ea eo eH ns nd rr
          exact ⟨d, xs, ep, vs, rfl, ns, eH, hv, p1 _ _ _ _ t2 s2 (wk_dv upd_same (rr.mono t2.ext t2.pre) (rv.mono t2.ext t2.pre))⟩
      · exact p1.elim
    · rename_i kvs
      cases r1 with
      | d r1 =>
        cases r1 with
        | @dct d xs ep _ rd ns nd rr =>
          have rr' := rk_w (m := m1) rr
          obtain ⟨vs, hv, rv⟩ := rr'.vals
          have wk := wk_dv rd rr' rv
          refine ⟨d, xs, ep, vs, rfl, ns, s1.sub _ _ rd, hv, p1 _ _ _ _ Stp.refl s1 ?_⟩
          have e : (kvs.map fun kv => Itm.one (Rf.W.d kv.2)) = ((kvs.map fun kv => (kv.1, Rf.W.d kv.2)).map fun kv => Itm.one kv.2) := by
            rw [List.map_map]
            rfl
          rw [e]
          exact wk
    · exact p1.elim
  · subst ex
    obtain rfl : u = Value.ref d := rx
    have hr := raw_at I1 eH
    have hz : (xs.map (entryOfKey (nestedKind X.prog X.w))).toArray.size = xs.length := by simp
    obtain ⟨o, g, ex, dt⟩ := id hr
    refine ⟨⟨o, g, ex.1⟩, fun b z => by cases z; exact ⟨o, g, ex.2.1⟩, ?_⟩
    have I2 : L2.Inv X pins σ H1 { s1 with heap := s1.heap.push { cls := .type "dict_values", data := .fields #[.ref d] } } := I1.kept (t' := s1.toks) fun b ob q => Heap.get?_push_of_some _ q
    have fin : wpAny (model X.prog X.w) X.A (pyIter (.ref s1.heap.objs.size)) (PIE X pins σ tg.syn R) X.xe { s1 with heap := s1.heap.push { cls := .type "dict_values", data := .fields #[.ref d] } } := by
      refine wpAny_pyIter_values_raw (d := d) ⟨_, Heap.get?_push_size _ rfl, rfl, rfl⟩ (hr.at fun o e => Heap.get?_push_of_some _ e) (pi_one (tk := s1.toks) I2 _ (turn_dv d _ xs ep vs hv) ⟨_, Heap.get?_push_size _ rfl, rfl, ?_⟩ r)
      rw [hz]
      rfl
    show wpAny _ _ (callWith p (.builtin "dict.values") [.ref d] [] []) _ X.xe s1
    exact method_meetsIn PySem.F.slot_dict_values PySem.F.entry_dict_values rfl (PySem.evalArgs_none ⟨rfl, ⟨o, g, ex.1⟩, PySem.F.args_dict_values_1 _, _, meets_dict_values_raw d ns, ⟨_, _, hr⟩, fin⟩)
end
end
end Rf
/-! Comprehensions run as they mean. -/
namespace Rf
open PySem PySem.Spec PyProof.Rows L2
/-! ### a walk's rest -/
section
variable (f : Itm → Hs → Res (List W))
def lcA (s : Src) (i : Nat) (h : Hs) : Res (List W) := match s with
  | .ws xs => lcL f (xs.drop i) h
  | .rf n k => lcR f n (k - i) i h
def Src.len : Src → Nat
  | .ws xs => xs.length
  | .rf _ k => k
theorem lcA_zero (s : Src) (h : Hs) : lcA f s 0 h = lcS f s h := by
  cases s <;> rfl
theorem lcA_step {s : Src} {i : Nat} {h h2 : Hs} {ws : List W} (e : lcA f s i h = .ok ws h2) :
    (nxS s i h = some none ∧ ws = [] ∧ h2 = h) ∨ (i < s.len ∧ ∃ x us h1 ws', nxS s i h = some (some x) ∧ f x h = .ok us h1 ∧ lcA f s (i + 1) h1 = .ok ws' h2 ∧ ws = us ++ ws') := by
  cases s with
  | ws xs =>
    unfold lcA at e
    simp only at e
    by_cases hi : i < xs.length
    · rw [List.drop_eq_getElem_cons hi] at e
      unfold lcL at e
      obtain ⟨us, h1, e1, e⟩ := Res.bd_ok e
      obtain ⟨ws', h3, e2, e⟩ := Res.bd_ok e
      cases e
      exact .inr ⟨hi, xs[i], us, h1, ws', by unfold nxS; simp [hi], e1, e2, rfl⟩
    · rw [List.drop_eq_nil_of_le (Nat.le_of_not_lt hi)] at e
      unfold lcL at e
      cases e
      exact .inl ⟨by unfold nxS; simp [Nat.le_of_not_lt hi], rfl, rfl⟩
  | rf n k =>
    unfold lcA at e
    simp only at e
    cases hk : k - i with
    | zero =>
      rw [hk] at e
      unfold lcR at e
      split at e
      · rename_i en
        cases e
        exact .inl ⟨by show (nxt n i h).map (fun o => o.map Itm.one) = _; rw [en]; rfl, rfl, rfl⟩
      · cases e
    | succ j =>
      rw [hk] at e
      unfold lcR at e
      split at e
      · rename_i en
        cases e
        exact .inl ⟨by show (nxt n i h).map (fun o => o.map Itm.one) = _; rw [en]; rfl, rfl, rfl⟩
      · rename_i x en
        obtain ⟨us, h1, e1, e⟩ := Res.bd_ok e
        obtain ⟨ws', h3, e2, e⟩ := Res.bd_ok e
        cases e
        have hj : k - (i + 1) = j := by omega
        refine .inr ⟨by show i < k; omega, .one x, us, h1, ws', by show (nxt n i h).map (fun o => o.map Itm.one) = _; rw [en]; rfl, e1, ?_, rfl⟩
        show lcR f n (k - (i + 1)) (i + 1) h1 = _
        rw [hj]
        exact e2
      · cases e
end
theorem nx_noex {α : Type} {r : Res α} {y : Exn} {h : Hs} : r.nx ≠ .ex y h := by
  cases r <;> exact fun z => nomatch z
section
variable {f : Itm → Hs → Res (List W)} (hf : ∀ x h y h', f x h ≠ .ex y h')
include hf
theorem bd_noex {α β : Type} {r : Res α} {k : α → Hs → Res β} {y : Exn} {h : Hs} (h1 : ∀ y h, r ≠ .ex y h) (h2 : ∀ a h' y h, k a h' ≠ .ex y h) : r.bd k ≠ .ex y h := by
  cases r with
  | ok a h' => exact h2 a h' y h
  | ex x h' => exact absurd rfl (h1 x h')
  | no => exact fun z => nomatch z
theorem lcL_noex : ∀ (xs : List Itm) (h : Hs) (y : Exn) (h' : Hs), lcL f xs h ≠ .ex y h'
  | [], h, y, h' => fun z => nomatch z
  | x :: r, h, y, h' => by
    unfold lcL
    refine bd_noex hf (fun y h' => hf x h y h') fun us h1 y h' => bd_noex hf (fun y h' => lcL_noex r h1 y h') fun ws h2 y h' => fun z => nomatch z
theorem lcR_noex (n : Nat) : ∀ (k i : Nat) (h : Hs) (y : Exn) (h' : Hs), lcR f n k i h ≠ .ex y h'
  | 0, i, h, y, h' => by
    unfold lcR
    split <;> exact fun z => nomatch z
  | k + 1, i, h, y, h' => by
    unfold lcR
    split
    · exact fun z => nomatch z
    · refine bd_noex hf (fun y h' => hf _ h y h') fun us h1 y h' => bd_noex hf (fun y h' => lcR_noex n k (i + 1) h1 y h') fun ws h2 y h' => fun z => nomatch z
    · exact fun z => nomatch z
theorem lcS_noex (s : Src) (h : Hs) (y : Exn) (h' : Hs) : lcS f s h ≠ .ex y h' := by
  cases s with
  | ws xs => exact lcL_noex hf xs h y h'
  | rf n k => exact lcR_noex hf n k 0 h y h'
end
/-! ### the new list, while it grows -/
section
variable (P : Program) (w : World) (K : PySem.W.Frag)
/-- F1, m1, H1: where it began; Fk, mk: what is known beside; D: the new list -/
def AccSt (F1 : Hp) (m1 : List Addr) (H1 : Hp) (Fk : Hp) (mk : List Addr) (D : Addr) (h : Hs) (H : Hp) (ws : List W) : Prop :=
  ∃ F m acc, Stp F1 m1 H1 F m H ∧ (∀ a o, Fk a = some o → F a = some o) ∧ (∀ (n : Nat) a, mk[n]? = some a → m[n]? = some a) ∧ Sep P w K m F h H ∧ H D = some (.lst acc) ∧ D ∉ m ∧ F D = none ∧ RWs P w K m F acc ws
end
section
variable {P : Program} {w : World} {K : PySem.W.Frag} {F1 H1 Fk F F' H H' : Hp} {m1 mk m m' : List Addr} {D : Addr} {h h' : Hs} {ws : List W}
theorem Stp.poke {o : HO} (s : Stp F1 m1 H1 F m H) (n : H1 D = none) : Stp F1 m1 H1 F m (upd H D o) := by
  refine ⟨s.ext, s.pre, fun a u e na => ?_, s.newF, s.newM, fun a u e => ?_⟩
  · rw [upd_ne (ne_of_none e n)]
    exact s.frm a u e na
  · obtain ⟨u', e'⟩ := s.dom a u e
    exact ⟨u', by rw [upd_ne (ne_of_none e n)]; exact e'⟩
theorem Sep.poke {o : HO} (s : Sep P w K m F h H) (hm : D ∉ m) (hf : F D = none) : Sep P w K m F h (upd H D o) := by
  refine ⟨s.len, s.nd, fun a u e => ?_, fun n u a e1 e2 => ?_⟩
  · rw [upd_ne (ne_of_none e hf)]
    exact s.sub a u e
  · have ha : a ≠ D := fun z => hm (by rw [← z]; exact List.mem_of_getElem? e2)
    exact (s.ob n u a e1 e2).mono (fun _ _ e => e) (fun _ _ e => e) (upd_ne ha) fun z => z
/-- what a step leaves of the new list -/
theorem Stp.keepD {acc : List V} (t : Stp F m H F' m' H') (s' : Sep P w K m' F' h' H') (eD : H D = some (.lst acc)) (hm : D ∉ m) (hf : F D = none) : H' D = some (.lst acc) ∧ D ∉ m' ∧ F' D = none := by
  refine ⟨t.frm D _ eD hm, fun z => ?_, ?_⟩
  · rcases t.newM D z with y | y
    · exact hm y
    · rw [eD] at y; cases y
  · cases q : F' D with
    | none => rfl
    | some o =>
      rcases t.newF D o q with y | y | y | ⟨fs, y⟩
      · rw [hf] at y; cases y
      · rw [eD] at y; cases y
      · exact absurd y hm
      · have z := s'.sub D o q
        rw [t.frm D _ eD hm, y] at z
        cases z
theorem acc_start (s : Sep P w K m1 F1 h H1) (n : H1 D = none) : AccSt P w K F1 m1 H1 F1 m1 D h (upd H1 D (.lst [])) [] := by
  obtain ⟨t, s'⟩ := s.layH (o := .lst []) n
  exact ⟨F1, m1, [], t, fun _ _ e => e, fun _ _ e => e, s', upd_same, s.notin n, s.noF n, .nil⟩
/-- the end: the list is the value -/
theorem acc_end {mf : Bool} {E : XK} {Q : VK} (st : AccSt P w K F1 m1 H1 Fk mk D h H ws) (n : H1 D = none) (p : Post P w K (RW P w K) E F1 m1 H1 (mkl mf ws h) Q) : Q (.ref D) H := by
  obtain ⟨F, m, acc, t, _, _, s, eD, hm, hf, r⟩ := st
  unfold mkl at p
  split at p
  · split at p
    · have pre : ∀ (k : Nat) a, m[k]? = some a → (m ++ [D])[k]? = some a := fun k a e => by
        rw [List.getElem?_append_left (List.getElem?_eq_some_iff.mp e).1]; exact e
      have t' : Stp F1 m1 H1 F (m ++ [D]) H := ⟨t.ext, fun k a e => pre k a (t.pre k a e), t.frm, t.newF, fun a ha => by
        rcases List.mem_append.mp ha with z | z
        · exact t.newM a z
        · rw [List.mem_singleton.mp z]; exact .inr n, t.dom⟩
      have s' : Sep P w K (m ++ [D]) F (h ++ [.lst ws]) H := by
        refine ⟨by rw [List.length_append, List.length_append, s.len]; rfl, ?_, s.sub, fun k u a e1 e2 => ?_⟩
        · exact List.nodup_append.mpr ⟨s.nd, by simp, fun a ha b hb => by
            rw [List.mem_singleton.mp hb]
            rintro rfl
            exact hm ha⟩
        · by_cases hk : k < h.length
          · rw [List.getElem?_append_left hk] at e1
            rw [List.getElem?_append_left (by rw [s.len]; exact hk)] at e2
            exact (s.ob k u a e1 e2).mono (fun _ _ e => e) pre rfl fun z => z
          · have hk1 : k = h.length := by
              have := (List.getElem?_eq_some_iff.mp e1).1
              rw [List.length_append, List.length_singleton] at this
              omega
            subst hk1
            rw [List.getElem?_append_right (Nat.le_refl _)] at e1
            rw [List.getElem?_append_right (by rw [s.len]; exact Nat.le_refl _)] at e2
            simp only [Nat.sub_self, List.getElem?_cons_zero, Option.some.injEq, s.len] at e1 e2
            subst e1 e2
            exact ⟨hf, acc, eD, r.mono (fun _ _ e => e) pre⟩
      refine p (.ref D) F (m ++ [D]) H t' s' (.r ?_)
      rw [List.getElem?_append_right (by rw [s.len]; exact Nat.le_refl _)]
      simp [s.len]
    · split at p
      · rename_i ds e
        have ext : ∀ a u, F a = some u → upd F D (.lst acc) a = some u := fun a u q => by
          rw [upd_ne (ne_of_none q hf)]; exact q
        have t' : Stp F1 m1 H1 (upd F D (.lst acc)) m H := ⟨fun a o q => ext a o (t.ext a o q), t.pre, t.frm, fun a u q => by
          by_cases ha : a = D
          · subst ha; exact .inr (.inl n)
          · rw [upd_ne ha] at q; exact t.newF a u q, t.newM, t.dom⟩
        have s' : Sep P w K m (upd F D (.lst acc)) h H := by
          refine ⟨s.len, s.nd, fun a u q => ?_, fun k u a e1 e2 => ?_⟩
          · by_cases ha : a = D
            · subst ha
              rw [upd_same] at q
              cases q
              exact eD
            · rw [upd_ne ha] at q; exact s.sub a u q
          · have ha : a ≠ D := fun z => hm (by rw [← z]; exact List.mem_of_getElem? e2)
            exact (s.ob k u a e1 e2).mono ext (fun _ _ e => e) rfl fun z => by rw [upd_ne ha]; exact z
        exact p (.ref D) (upd F D (.lst acc)) m H t' s' (.d (.lst (.inl upd_same) ((rds_all r e).mono ext)))
      · exact p.elim
  · exact p.elim
end
/-! ### the last clause -/
section
variable {X : Cx} {C : Ct} {W0 : WX}
/-- a turn of the last clause -/
def turnE (C : Ct) (tg : Tg) (cs : Oe) (elt : E) (e0 : Env) (x : Itm) (h : Hs) : Res (List Rf.W) := Res.nx ((asI C tg x e0 h).bd fun e3 h3 => (evC C cs e3 h3).bd fun b h4 => if b = true then (evE C elt e3 h4).bd fun w h5 => .ok [w] h5 else .ok [] h4)
theorem nx_ok {α : Type} {r : Res α} {a : α} {h : Hs} (e : r.nx = .ok a h) : r = .ok a h := by
  cases r with
  | ok _ _ => exact e
  | ex _ _ => cases e
  | no => cases e
theorem turn_ok {tg : Tg} {cs : Oe} {elt : E} {e0 : Env} {x : Itm} {h h5 : Hs} {us : List Rf.W} (e : turnE C tg cs elt e0 x h = .ok us h5) :
    ∃ e3 h3 b h4, asI C tg x e0 h = .ok e3 h3 ∧ evC C cs e3 h3 = .ok b h4 ∧ (if b = true then ∃ w, evE C elt e3 h4 = .ok w h5 ∧ us = [w] else us = [] ∧ h5 = h4) := by
  have e := nx_ok e
  obtain ⟨e3, h3, q1, e⟩ := Res.bd_ok e
  obtain ⟨b, h4, q2, e⟩ := Res.bd_ok e
  refine ⟨e3, h3, b, h4, q1, q2, ?_⟩
  cases b with
  | true =>
    simp only [if_true] at e ⊢
    obtain ⟨w, h6, q3, e⟩ := Res.bd_ok e
    cases e
    exact ⟨w, q3, rfl⟩
  | false =>
    simp only [Bool.false_eq_true, if_false] at e ⊢
    cases e
    exact ⟨rfl, rfl⟩
/-- a walk of the last clause -/
theorem lc_last {tg : Tg} {cs : Oe} {elt : E} {σ : L2.St} {env : Env} {vs : List Nat} {J : L2.It} {s : Src} {F1 H1 Fk H : Hp} {m1 mk : List Addr} {D : Addr} {h h2 : Hs} {ws0 us : List Rf.W} {Qd : Hp → Prop}
    (hv : ∀ i ∈ tvs tg, i ∈ vs) (n : H1 D = none) (wk : Wk X.prog X.w X.K mk Fk J s) (en : Envs X.prog X.w X.K none mk Fk σ env) (st : AccSt X.prog X.w X.K F1 m1 H1 Fk mk D h H ws0)
    (rest : lcA (turnE C tg cs elt (wipeE env vs)) s 0 h = .ok us h2) (hl : (ws0 ++ us).length ≤ lim) (hq : ∀ H', AccSt X.prog X.w X.K F1 m1 H1 Fk mk D h2 H' (ws0 ++ us) → Qd H') :
    ∃ W1 : Nat → Nat → Hp → Prop, (∃ μ, W1 0 μ H) ∧ ∀ i μ H, W1 i μ H → (J.stop i H ∧ Qd H) ∨ (J.go i H ∧ ∃ Nx : Hp → Prop, (∀ H', Nx H' → ∃ μ', μ' < μ ∧ W1 (i + 1) μ' H') ∧ ∀ x H', J.yld i H x H' → rG X C none tg x (L2.wipe σ vs) H' fun σ2 H2 => L2.wipe σ2 vs = L2.wipe σ vs ∧ rTs X C W0 none cs σ2 H2 fun b H3 =>
      if b = true then rE X C W0 none elt σ2 H3 fun y H4 => ∃ acc, H4 D = some (.lst acc) ∧ acc.length < sizeLine ∧ Nx (upd H4 D (.lst (acc ++ [y]))) else Nx H3) := by
  refine ⟨fun i μ H => ∃ h' wsA ws', AccSt X.prog X.w X.K F1 m1 H1 Fk mk D h' H wsA ∧ lcA (turnE C tg cs elt (wipeE env vs)) s i h' = .ok ws' h2 ∧ wsA ++ ws' = ws0 ++ us ∧ μ = s.len - i, ⟨s.len, h, ws0, us, st, rest, rfl, by omega⟩, ?_⟩
  rintro i μ H ⟨h', wsA, ws', st, er, ew, rfl⟩
  obtain ⟨F, m, acc, t, xF, xm, sep, eD, hm, hf, r⟩ := id st
  have wki := wk F m h' H xF xm sep i
  rcases lcA_step _ er with ⟨e1, rfl, rfl⟩ | ⟨hi, x, us1, h1, ws1, e1, e2, e3, rfl⟩
  · rw [e1] at wki
    refine .inl ⟨wki, hq H ?_⟩
    rw [List.append_nil] at ew
    rw [← ew]
    exact st
  · rw [e1] at wki
    obtain ⟨go, yl⟩ := wki
    obtain ⟨ea, h3, b, h4, q1, q2, q3⟩ := turn_ok e2
    refine .inr ⟨go, fun H' => AccSt X.prog X.w X.K F1 m1 H1 Fk mk D h1 H' (wsA ++ us1), fun H' st' => ⟨s.len - (i + 1), by omega, h1, wsA ++ us1, ws1, st', e3, by rw [List.append_assoc]; exact ew, rfl⟩, fun v H' y => ?_⟩
    obtain ⟨t1, s1, ri⟩ := yl v H' y
    obtain ⟨d1, d2, d3⟩ := t1.keepD s1 eD hm hf
    refine ⟨F, m, h', wipeE env vs, x, s1, (en.mono xF xm).wipe vs, ri, ?_⟩
    rw [q1]
    intro σ2 F2 m2 H2 t2 s2 g2
    obtain ⟨d4, d5, d6⟩ := t2.keepD s2 d1 d2 d3
    refine ⟨g2.2.wiped hv, F2, m2, h3, ea, s2, g2.1, ?_⟩
    rw [q2]
    intro b' F3 m3 H3 t3 s3 eb
    subst eb
    obtain ⟨d7, d8, d9⟩ := t3.keepD s3 d4 d5 d6
    have tt : Stp F1 m1 H1 F3 m3 H3 := ((t.trans t1).trans t2).trans t3
    have rr : RWs X.prog X.w X.K m3 F3 acc wsA := RWs.stp t3 (RWs.stp t2 r)
    cases b' with
    | false =>
      simp only [Bool.false_eq_true, if_false] at q3 ⊢
      obtain ⟨rfl, rfl⟩ := q3
      rw [List.append_nil]
      exact ⟨F3, m3, acc, tt, fun a o e => t3.ext _ _ (t2.ext _ _ (xF a o e)), fun k a e => t3.pre _ _ (t2.pre _ _ (xm k a e)), s3, d7, d8, d9, rr⟩
    | true =>
      simp only [if_true] at q3 ⊢
      obtain ⟨w, q3, rfl⟩ := q3
      refine ⟨F3, m3, h4, ea, s3, g2.1.stp t3, ?_⟩
      rw [q3]
      intro yv F4 m4 H4 t4 s4 ry
      obtain ⟨d10, d11, d12⟩ := t4.keepD s4 d7 d8 d9
      have hlen : acc.length < sizeLine := by
        rw [RWs.length r]
        have : (wsA ++ ([w] ++ ws1)).length ≤ lim := by rw [ew]; exact hl
        simp only [List.length_append, List.length_singleton] at this
        have l2 : lim = 10000000 := rfl
        have l3 := sizeLine_eq
        omega
      refine ⟨acc, d10, hlen, F4, m4, acc ++ [yv], (tt.trans t4).poke n, fun a o e => t4.ext _ _ (t3.ext _ _ (t2.ext _ _ (xF a o e))), fun k a e => t4.pre _ _ (t3.pre _ _ (t2.pre _ _ (xm k a e))), s4.poke d11 d12, upd_same, d11, d12, ?_⟩
      exact RWs.app (RWs.stp t4 rr) (.cons ry .nil)
end
/-! ### the rules -/
abbrev WF : WX := fun _ _ _ _ => False
section
variable {X : Cx} (C : Ct) (W : WX) (hx : HX)
theorem lc_red {mf : Bool} {elt : E} {tg : Tg} {it : It} {cs : Oe} {own : List (Str × Nat)} {sc : Scope} {p : Pos} {σ : L2.St} {H : Hp} {Q : VK} (hv : ∀ i ∈ tvs tg, i ∈ own.map (·.2)) (q : rE X C W none (.lc mf elt tg it cs own sc p) σ H Q) :
    tLc (rI X C W none it) (rG X C none tg) (rTs X C WF none cs) (rE X C WF none elt) (own.map (·.2)) σ H Q := by
  obtain ⟨F, m, h, env, sep, en, q⟩ := q
  unfold evE at q
  refine ⟨F, m, h, env, sep, en, Post.bind q fun src h1 J F1 m1 H1 e1 t1 s1 wk p1 => ?_⟩
  intro D nD
  have p1' : Post X.prog X.w X.K (RW X.prog X.w X.K) (fun c d H' => W c d σ H') F1 m1 H1 ((lcS (turnE C tg cs elt (wipeE env (own.map (·.2)))) src h1).bd fun ws h2 => mkl mf ws h2) Q := p1
  cases er : lcS (turnE C tg cs elt (wipeE env (own.map (·.2)))) src h1 with
  | no => rw [er] at p1'; exact p1'.elim
  | ex x h2 => exact absurd er (lcS_noex (fun x h y h' => nx_noex) _ _ _ _)
  | ok us h2 =>
    rw [er] at p1'
    have p2 : Post X.prog X.w X.K (RW X.prog X.w X.K) (fun c d H' => W c d σ H') F1 m1 H1 (mkl mf us h2) Q := p1'
    have hl : us.length ≤ lim := by
      unfold mkl at p2
      split at p2
      · assumption
      · exact p2.elim
    exact lc_last (C := C) (W0 := WF) (ws0 := []) hv nD wk (en.stp t1) (acc_start s1 nD) (by rw [lcA_zero]; exact er) (by rw [List.nil_append]; exact hl) fun H' st => acc_end st nD (by rw [List.nil_append]; exact p2)
theorem s_lc {mf : Bool} {elt : E} {tg : Tg} {it : It} {cs : Oe} {own : List (Str × Nat)} {sc : Scope} {p : Pos} (hc : X.calm = true) (hN : X.N.Nodup) (ok : BlkOk X.N X.env.scope sc own) (hv : ∀ i ∈ tvs tg, i ∈ own.map (·.2)) (hi : PI X tg.syn it.syn (rI X C W hx it))
    (hg : ∀ (s : Shared) (H : Hp) (A : Addr) (cl : List (Str × Addr)) (fp : List Addr), PG (X.blk s H sc (compEnvC sc cl A X.env) fp) tg.syn (rG X C none tg))
    (ht : ∀ (s : Shared) (H : Hp) (A : Addr) (cl : List (Str × Addr)) (fp : List Addr), PTs (X.blk s H sc (compEnvC sc cl A X.env) fp) cs.lsyn (rTs X C WF none cs))
    (he : ∀ (s : Shared) (H : Hp) (A : Addr) (cl : List (Str × Addr)) (fp : List Addr), PE (X.blk s H sc (compEnvC sc cl A X.env) fp) elt.syn (rE X C WF none elt)) (hs : ∀ x, foldedSetIterable it.syn X.env x = pure x) (h0 : hx = none) :
    PE X (E.lc mf elt tg it cs own sc p).syn (rE X C W hx (.lc mf elt tg it cs own sc p)) := by
  subst h0
  exact pe_of (pe_lc hc hN hi ok hg ht he hs) fun σ H Q q => lc_red C W hv q
end
end Rf
/-! Comprehensions of two clauses; expressions run as they mean. -/
namespace Rf
open PySem PySem.Spec PyProof.Rows L2
section
variable {X : Cx} {C : Ct}
def turn2 (C : Ct) (tg : Tg) (cs : Oe) (it' : It) (tg' : Tg) (cs' : Oe) (elt : E) (vs' : List Nat) (e0 : Env) (x : Itm) (h : Hs) : Res (List Rf.W) := Res.nx ((asI C tg x e0 h).bd fun e3 h3 => (evC C cs e3 h3).bd fun b h4 =>
  if b = true then (evI C it' e3 h4).bd fun s' h5 => lcS (turnE C tg' cs' elt (wipeE e3 vs')) s' h5 else .ok [] h4)
theorem turn2_ok {tg : Tg} {cs : Oe} {it' : It} {tg' : Tg} {cs' : Oe} {elt : E} {vs' : List Nat} {e0 : Env} {x : Itm} {h h5 : Hs} {us : List Rf.W} (e : turn2 C tg cs it' tg' cs' elt vs' e0 x h = .ok us h5) :
    ∃ e3 h3 b h4, asI C tg x e0 h = .ok e3 h3 ∧ evC C cs e3 h3 = .ok b h4 ∧ (if b = true then ∃ s' h6, evI C it' e3 h4 = .ok s' h6 ∧ lcS (turnE C tg' cs' elt (wipeE e3 vs')) s' h6 = .ok us h5 else us = [] ∧ h5 = h4) := by
  have e := nx_ok e
  obtain ⟨e3, h3, q1, e⟩ := Res.bd_ok e
  obtain ⟨b, h4, q2, e⟩ := Res.bd_ok e
  refine ⟨e3, h3, b, h4, q1, q2, ?_⟩
  cases b with
  | true =>
    simp only [if_true] at e ⊢
    obtain ⟨s', h6, q3, e⟩ := Res.bd_ok e
    exact ⟨s', h6, q3, e⟩
  | false =>
    simp only [Bool.false_eq_true, if_false] at e ⊢
    cases e
    exact ⟨rfl, rfl⟩
theorem AccSt.weak {P : Program} {w : World} {K : PySem.W.Frag} {F1 H1 Fk Fj H : Hp} {m1 mk mj : List Addr} {D : Addr} {h : Hs} {ws : List Rf.W} (a : AccSt P w K F1 m1 H1 Fj mj D h H ws) (x : ∀ a o, Fk a = some o → Fj a = some o) (y : ∀ (n : Nat) a, mk[n]? = some a → mj[n]? = some a) : AccSt P w K F1 m1 H1 Fk mk D h H ws := by
  obtain ⟨F, m, acc, t, xF, xm, r⟩ := a
  exact ⟨F, m, acc, t, fun a o e => xF a o (x a o e), fun n a e => xm n a (y n a e), r⟩
variable (C) (W : WX) (hx : HX)
theorem lc2_red {mf : Bool} {elt : E} {tg tg' : Tg} {it it' : It} {cs cs' : Oe} {own : List (Str × Nat)} {vs' : List Nat} {sc : Scope} {p : Pos} {σ : L2.St} {H : Hp} {Q : VK} (hv : ∀ i ∈ tvs tg, i ∈ own.map (·.2)) (hv' : ∀ i ∈ tvs tg', i ∈ vs') (q : rE X C W none (.lc2 mf elt tg it cs tg' it' cs' own vs' sc p) σ H Q) :
    tLc2 (rI X C W none it) (rG X C none tg) (rTs X C WF none cs) (rI X C WF none it') (rG X C none tg') (rTs X C WF none cs') (rE X C WF none elt) (own.map (·.2)) vs' σ H Q := by
  obtain ⟨F, m, h, env, sep, en, q⟩ := q
  unfold evE at q
  refine ⟨F, m, h, env, sep, en, Post.bind q fun src h1 J F1 m1 H1 e1 t1 s1 wk p1 => ?_⟩
  intro D nD
  have p1' : Post X.prog X.w X.K (RW X.prog X.w X.K) (fun c d H' => W c d σ H') F1 m1 H1 ((lcS (turn2 C tg cs it' tg' cs' elt vs' (wipeE env (own.map (·.2)))) src h1).bd fun ws h2 => mkl mf ws h2) Q := p1
  cases er : lcS (turn2 C tg cs it' tg' cs' elt vs' (wipeE env (own.map (·.2)))) src h1 with
  | no => rw [er] at p1'; exact p1'.elim
  | ex x h2 => exact absurd er (lcS_noex (fun x h y h' => nx_noex) _ _ _ _)
  | ok us h2 =>
    rw [er] at p1'
    have p2 : Post X.prog X.w X.K (RW X.prog X.w X.K) (fun c d H' => W c d σ H') F1 m1 H1 (mkl mf us h2) Q := p1'
    have hl : us.length ≤ lim := by
      unfold mkl at p2
      split at p2
      · assumption
      · exact p2.elim
    have en1 := en.stp t1
    refine ⟨fun i μ H => ∃ h' wsA ws', AccSt X.prog X.w X.K F1 m1 H1 F1 m1 D h' H wsA ∧ lcA (turn2 C tg cs it' tg' cs' elt vs' (wipeE env (own.map (·.2)))) src i h' = .ok ws' h2 ∧ wsA ++ ws' = us ∧ μ = src.len - i, ⟨src.len, h1, [], us, acc_start s1 nD, by rw [lcA_zero]; exact er, rfl, by omega⟩, ?_⟩
    rintro i μ H ⟨h', wsA, ws', st, er2, rfl, rfl⟩
    obtain ⟨F, m, acc, t, xF, xm, sep, eD, hm, hf, r⟩ := id st
    have wki := wk F m h' H xF xm sep i
    rcases lcA_step _ er2 with ⟨e1, rfl, rfl⟩ | ⟨hi, x, us1, h5, ws1, e1, e2, e3, rfl⟩
    · rw [e1] at wki
      rw [List.append_nil] at p2
      exact .inl ⟨wki, acc_end st nD p2⟩
    · rw [e1] at wki
      obtain ⟨go, yl⟩ := wki
      obtain ⟨ea, h3, b, h4, q1, q2, q3⟩ := turn2_ok e2
      refine .inr ⟨go, fun H' => AccSt X.prog X.w X.K F1 m1 H1 F1 m1 D h5 H' (wsA ++ us1), fun H' st' => ⟨src.len - (i + 1), by omega, h5, wsA ++ us1, ws1, st', e3, by rw [List.append_assoc], rfl⟩, fun v H' y => ?_⟩
      obtain ⟨t1, s1, ri⟩ := yl v H' y
      obtain ⟨d1, d2, d3⟩ := t1.keepD s1 eD hm hf
      refine ⟨F, m, h', wipeE env (own.map (·.2)), x, s1, (en1.mono xF xm).wipe _, ri, ?_⟩
      rw [q1]
      intro σ2 F2 m2 H2 t2 s2 g2
      obtain ⟨d4, d5, d6⟩ := t2.keepD s2 d1 d2 d3
      refine ⟨g2.2.wiped hv, F2, m2, h3, ea, s2, g2.1, ?_⟩
      rw [q2]
      intro b' F3 m3 H3 t3 s3 eb
      subst eb
      obtain ⟨d7, d8, d9⟩ := t3.keepD s3 d4 d5 d6
      have tt : Stp F1 m1 H1 F3 m3 H3 := ((t.trans t1).trans t2).trans t3
      have rr : RWs X.prog X.w X.K m3 F3 acc wsA := RWs.stp t3 (RWs.stp t2 r)
      have xF3 : ∀ a o, F1 a = some o → F3 a = some o := fun a o e => t3.ext _ _ (t2.ext _ _ (xF a o e))
      have xm3 : ∀ (k : Nat) a, m1[k]? = some a → m3[k]? = some a := fun k a e => t3.pre _ _ (t2.pre _ _ (xm k a e))
      cases b' with
      | false =>
        simp only [Bool.false_eq_true, if_false] at q3 ⊢
        obtain ⟨rfl, rfl⟩ := q3
        rw [List.append_nil]
        exact ⟨F3, m3, acc, tt, xF3, xm3, s3, d7, d8, d9, rr⟩
      | true =>
        simp only [if_true] at q3 ⊢
        obtain ⟨s', h6, q3, q4⟩ := q3
        refine ⟨F3, m3, h4, ea, s3, g2.1.stp t3, ?_⟩
        rw [q3]
        intro J1 F4 m4 H4 t4 s4 wk4
        obtain ⟨d10, d11, d12⟩ := t4.keepD s4 d7 d8 d9
        have st4 : AccSt X.prog X.w X.K F1 m1 H1 F4 m4 D h6 H4 wsA := ⟨F4, m4, acc, tt.trans t4, fun _ _ e => e, fun _ _ e => e, s4, d10, d11, d12, RWs.stp t4 rr⟩
        refine lc_last (C := C) (W0 := WF) (ws0 := wsA) hv' nD wk4 ((g2.1.stp t3).stp t4) st4 (by rw [lcA_zero]; exact q4) ?_ fun H' st5 => st5.weak (fun a o e => t4.ext _ _ (xF3 a o e)) fun k a e => t4.pre _ _ (xm3 k a e)
        have : (wsA ++ (us1 ++ ws1)).length ≤ lim := hl
        simp only [List.length_append] at this ⊢
        omega
theorem s_lc2 {mf : Bool} {elt : E} {tg tg' : Tg} {it it' : It} {cs cs' : Oe} {own : List (Str × Nat)} {vs' : List Nat} {sc : Scope} {p : Pos} (hc : X.calm = true) (hN : X.N.Nodup) (ok : BlkOk X.N X.env.scope sc own) (hvs : ∀ i ∈ vs', i ∈ own.map (·.2)) (hv : ∀ i ∈ tvs tg, i ∈ own.map (·.2)) (hv' : ∀ i ∈ tvs tg', i ∈ vs') (hi : PI X tg.syn it.syn (rI X C W hx it))
    (hg : ∀ (s : Shared) (H : Hp) (A : Addr) (cl : List (Str × Addr)) (fp : List Addr), PG (X.blk s H sc (compEnvC sc cl A X.env) fp) tg.syn (rG X C none tg))
    (ht : ∀ (s : Shared) (H : Hp) (A : Addr) (cl : List (Str × Addr)) (fp : List Addr), PTs (X.blk s H sc (compEnvC sc cl A X.env) fp) cs.lsyn (rTs X C WF none cs))
    (hi' : ∀ (s : Shared) (H : Hp) (A : Addr) (cl : List (Str × Addr)) (fp : List Addr), PI (X.blk s H sc (compEnvC sc cl A X.env) fp) tg'.syn it'.syn (rI X C WF none it'))
    (hg' : ∀ (s : Shared) (H : Hp) (A : Addr) (cl : List (Str × Addr)) (fp : List Addr), PG (X.blk s H sc (compEnvC sc cl A X.env) fp) tg'.syn (rG X C none tg'))
    (ht' : ∀ (s : Shared) (H : Hp) (A : Addr) (cl : List (Str × Addr)) (fp : List Addr), PTs (X.blk s H sc (compEnvC sc cl A X.env) fp) cs'.lsyn (rTs X C WF none cs'))
    (he : ∀ (s : Shared) (H : Hp) (A : Addr) (cl : List (Str × Addr)) (fp : List Addr), PE (X.blk s H sc (compEnvC sc cl A X.env) fp) elt.syn (rE X C WF none elt)) (hs : ∀ x, foldedSetIterable it.syn X.env x = pure x) (hs' : ∀ env x, foldedSetIterable it'.syn env x = pure x) (h0 : hx = none) :
    PE X (E.lc2 mf elt tg it cs tg' it' cs' own vs' sc p).syn (rE X C W hx (.lc2 mf elt tg it cs tg' it' cs' own vs' sc p)) := by
  subst h0
  exact pe_of (pe_lc2 hc hN hi ok hvs hg ht hi' hg' ht' he hs hs') fun σ H Q q => lc2_red C W hv hv' q
end
/-! ### the block's context -/
section
variable {T : Tab} {C : Ct} {k : Kx} {X : Cx} {W : WX}
theorem fold_it (it : It) (env : PySem.Env) (x : Value) : foldedSetIterable it.syn env x = pure x := by
  cases it with
  | exp a => exact fold_syn a env x
  | _ => rfl
theorem Gd.blk {hx : HX} (G : Gd T C k hx X W) (s : Shared) (H : Hp) (sc : Scope) (cl : List (Str × Addr)) (A : Addr) (fp : List Addr) : Gd T C (k.blk sc) none (X.blk s H sc (compEnvC sc cl A X.env) fp) WF where
  hN := G.hN
  nd := G.nd
  sc := by
    show relabel sc X.env = blkSc sc k.sc
    rw [← G.sc]
    rfl
  fc := fun x e => e
  calm := G.calm
  hu := G.hu
  tk := takes0
  fr := G.fr
  cn := G.cn
  at_ := G.at_
  fn := fun c i fe e1 e2 => let ⟨n, f, fd, h1, h2, h3, h4⟩ := G.fn c i fe e1 e2; ⟨n, f, fd, h1, h2, h3, ⟨h4.ok, h4.bd⟩⟩
  me := fun c i fe cc e1 e2 => let ⟨n, f, fd, h1, h2, h3, h4⟩ := G.me c i fe cc e1 e2; ⟨n, f, fd, h1, h2, h3, ⟨h4.ok, h4.bd⟩⟩
  nw := fun c i ce fe e1 e2 => let ⟨n, f, fd, g, h1, h2, h3, h4, h5⟩ := G.nw c i ce fe e1 e2; ⟨n, f, fd, g, h1, h2, h3, h4, ⟨h5.ok, h5.bd⟩⟩
  sp := fun c i fe cc e1 e2 => let ⟨n, f, fd, h1, h2, h3⟩ := G.sp c i fe cc e1 e2; ⟨n, f, fd, h1, h2, ⟨h3.ok, h3.bd⟩⟩
  hc0 := fun _ => rfl
  xf := fun i a Ca dd e => nomatch e
end
end Rf
/-! Expressions run as they mean. -/
namespace Rf
open PySem PySem.Spec PyProof.Rows L2
section
variable {T : Tab} {C : Ct}
theorem t_none {X : Cx} (W : WX) (hx : HX) : PTs X (Oe.none).lsyn (rTs X C W hx .none) := ⟨fun pins s σ H Q I ⟨F, m, h, env, sep, en, q⟩ => pts_nil.run pins s σ H Q I (by
  unfold evC at q
  exact q.ok_rel sep rfl)⟩
theorem t_some {X : Cx} (W : WX) (hx : HX) {a : E} (ha : PT X a.syn (rT X C W hx a)) : PTs X (Oe.some a).lsyn (rTs X C W hx (.some a)) := ⟨fun pins s σ H Q I ⟨F, m, h, env, sep, en, q⟩ => (pts_one ha).run pins s σ H Q I (by
  unfold evC at q
  exact ⟨F, m, h, env, sep, en, q⟩)⟩
theorem own_of {vs us : List Nat} (c : ownB vs us = true) : ∀ i ∈ vs, i ∈ us := fun i hi => by
  unfold ownB at c
  exact of_decide_eq_true (List.all_eq_true.mp c i hi)
mutual
theorem sndE : ∀ (e : E) (k : Kx) (hx : HX) (X : Cx) (W : WX), Gd T C k hx X W → okE T k e = true → PE X e.syn (rE X C W hx e) ∧ PT X e.syn (rT X C W hx e)
  | .var i x p, k, hx, X, W, G, c => by
    have h : PE X (E.var i x p).syn (rE X C W hx (.var i x p)) := s_var C W hx G c
    exact ⟨h, t_val C W hx h rfl⟩
  | .int i j p, k, hx, X, W, G, c => ⟨s_int C W hx, t_val C W hx (s_int C W hx) rfl⟩
  | .str i j p, k, hx, X, W, G, c => ⟨s_str C W hx, t_val C W hx (s_str C W hx) rfl⟩
  | .bl i j p, k, hx, X, W, G, c => ⟨s_bl C W hx, t_val C W hx (s_bl C W hx) rfl⟩
  | .non j p, k, hx, X, W, G, c => ⟨s_non C W hx, t_val C W hx (s_non C W hx) rfl⟩
  | .glo x p, k, hx, X, W, G, c => by
    have h : PE X (E.glo x p).syn (rE X C W hx (.glo x p)) := s_glo C W hx G c
    exact ⟨h, t_val C W hx h rfl⟩
  | .bin o mf a b p, k, hx, X, W, G, c => by
    simp only [okE, Bool.and_eq_true] at c
    have h : PE X (E.bin o mf a b p).syn (rE X C W hx (.bin o mf a b p)) := s_bin C W hx (sndE a k hx X W G c.1).1 (sndE b k hx X W G c.2).1
    exact ⟨h, t_val C W hx h rfl⟩
  | .neg a p, k, hx, X, W, G, c => by
    have h : PE X (E.neg a p).syn (rE X C W hx (.neg a p)) := s_neg C W hx (sndE a k hx X W G c).1
    exact ⟨h, t_val C W hx h rfl⟩
  | .nott a p, k, hx, X, W, G, c => ⟨s_not C W hx (sndE a k hx X W G c).1, t_not C W hx (sndE a k hx X W G c).2⟩
  | .and_ es p, k, hx, X, W, G, c => by
    obtain ⟨_, h1, _, h2, _⟩ := sndEs es k hx X W G c
    exact ⟨pe_of (h1 p) fun σ H Q ⟨F, m, h, env, sep, en, q⟩ => by
      unfold evE at q
      exact ⟨F, m, h, env, sep, en, q⟩, (pw_of (h2 p) (t' := rT X C W hx (.and_ es p)) fun σ H Q ⟨F, m, h, env, sep, en, q⟩ => by
      unfold evE at q
      exact ⟨F, m, h, env, sep, en, q⟩).pt⟩
  | .or_ es p, k, hx, X, W, G, c => by
    obtain ⟨_, _, h1, _, h2⟩ := sndEs es k hx X W G c
    exact ⟨pe_of (h1 p) fun σ H Q ⟨F, m, h, env, sep, en, q⟩ => by
      unfold evE at q
      exact ⟨F, m, h, env, sep, en, q⟩, (pw_of (h2 p) (t' := rT X C W hx (.or_ es p)) fun σ H Q ⟨F, m, h, env, sep, en, q⟩ => by
      unfold evE at q
      exact ⟨F, m, h, env, sep, en, q⟩).pt⟩
  | .cmp o a b p, k, hx, X, W, G, c => by
    simp only [okE, Bool.and_eq_true] at c
    exact ⟨s_cmp C W hx (sndE a k hx X W G c.1).1 (sndE b k hx X W G c.2).1 G.hu, t_cmp C W hx G.hu (sndE a k hx X W G c.1).1 (sndE b k hx X W G c.2).1⟩
  | .chn o o' a b d p, k, hx, X, W, G, c => by
    simp only [okE, Bool.and_eq_true] at c
    exact ⟨s_chn C W hx G.hu (sndE a k hx X W G c.1).1 (sndE b k hx X W G c.2.1).1 (sndE d k hx X W G c.2.2).1, t_chn C W hx G.hu (sndE a k hx X W G c.1).1 (sndE b k hx X W G c.2.1).1 (sndE d k hx X W G c.2.2).1⟩
  | .ite d a b p, k, hx, X, W, G, c => by
    simp only [okE, Bool.and_eq_true] at c
    exact ⟨s_ite C W hx (sndE d k hx X W G c.1).2 (sndE a k hx X W G c.2.1).1 (sndE b k hx X W G c.2.2).1, t_ite C W hx (sndE d k hx X W G c.1).2 (sndE a k hx X W G c.2.1).2 (sndE b k hx X W G c.2.2).2⟩
  | .tup es j p, k, hx, X, W, G, c => by
    have h : PE X (E.tup es j p).syn (rE X C W hx (.tup es j p)) := s_tup C W hx (sndEs es k hx X W G c).1
    exact ⟨h, t_val C W hx h rfl⟩
  | .lst mf es p, k, hx, X, W, G, c => by
    have h : PE X (E.lst mf es p).syn (rE X C W hx (.lst mf es p)) := s_lst C W hx (sndEs es k hx X W G c).1
    exact ⟨h, t_val C W hx h rfl⟩
  | .dic p, k, hx, X, W, G, c => ⟨s_dic C W hx, t_val C W hx (s_dic C W hx) rfl⟩
  | .sub a b p, k, hx, X, W, G, c => by
    simp only [okE, Bool.and_eq_true] at c
    have h : PE X (E.sub a b p).syn (rE X C W hx (.sub a b p)) := s_sub C W hx (sndE a k hx X W G c.1).1 (sndE b k hx X W G c.2).1 G.hu
    exact ⟨h, t_val C W hx h rfl⟩
  | .slc mf a lo hi p' p, k, hx, X, W, G, c => by
    simp only [okE, Bool.and_eq_true] at c
    have h : PE X (E.slc mf a lo hi p' p).syn (rE X C W hx (.slc mf a lo hi p' p)) := s_slc C W hx (sndE a k hx X W G c.1).1 (sndO lo k hx X W G c.2.1).1 (sndO hi k hx X W G c.2.2).1
    exact ⟨h, t_val C W hx h rfl⟩
  | .rev mf a j p1 p2 p3 p, k, hx, X, W, G, c => by
    have h : PE X (E.rev mf a j p1 p2 p3 p).syn (rE X C W hx (.rev mf a j p1 p2 p3 p)) := s_rev C W hx (sndE a k hx X W G c).1
    exact ⟨h, t_val C W hx h rfl⟩
  | .fld a f p, k, hx, X, W, G, c => by
    simp only [okE, Bool.and_eq_true] at c
    have h : PE X (E.fld a f p).syn (rE X C W hx (.fld a f p)) := s_fld C W hx G c.1 (sndE a k hx X W G c.2).1
    exact ⟨h, t_val C W hx h rfl⟩
  | .exf i x f p' p, k, hx, X, W, G, c => by
    simp only [okE, Bool.and_eq_true, decide_eq_true_eq] at c
    have h : PE X (E.exf i x f p' p).syn (rE X C W hx (.exf i x f p' p)) := s_exf C W hx G c.1 c.2
    exact ⟨h, t_val C W hx h rfl⟩
  | .cal f x es ks ord p0 p, k, hx, X, W, G, c => by
    simp only [okE, Bool.and_eq_true] at c
    have h : PE X (E.cal f x es ks ord p0 p).syn (rE X C W hx (.cal f x es ks ord p0 p)) := s_cal C W hx G c.1 c.2.1 (sndEs es k hx X W G c.2.2.1).1 (sndK ks k hx X W G c.2.2.2)
    exact ⟨h, t_val C W hx h rfl⟩
  | .mcl f cc m a es ks ord p1 p, k, hx, X, W, G, c => by
    simp only [okE, Bool.and_eq_true, decide_eq_true_eq] at c
    have h : PE X (E.mcl f cc m a es ks ord p1 p).syn (rE X C W hx (.mcl f cc m a es ks ord p1 p)) := s_mcl C W hx G c.1.1 c.1.2.1 c.1.2.2 c.2.1 (sndE a k hx X W G c.2.2.1).1 (sndEs es k hx X W G c.2.2.2.1).1 (sndK ks k hx X W G c.2.2.2.2)
    exact ⟨h, t_val C W hx h rfl⟩
  | .new cc x es ks ord p0 p, k, hx, X, W, G, c => by
    simp only [okE, Bool.and_eq_true] at c
    have h : PE X (E.new cc x es ks ord p0 p).syn (rE X C W hx (.new cc x es ks ord p0 p)) := s_new C W hx G c.1 c.2.1 (sndEs es k hx X W G c.2.2.1).1 (sndK ks k hx X W G c.2.2.2)
    exact ⟨h, t_val C W hx h rfl⟩
  | .bif b mf es p0 p, k, hx, X, W, G, c => by
    simp only [okE, Bool.and_eq_true, Bool.or_eq_true, decide_eq_true_eq] at c
    have h : PE X (E.bif b mf es p0 p).syn (rE X C W hx (.bif b mf es p0 p)) := s_bif C W hx G c.1 c.2.1 c.2.2.1 (sndEs es k hx X W G c.2.2.2).1
    exact ⟨h, t_val C W hx h rfl⟩
  | .isi a t p1 p0 p, k, hx, X, W, G, c => by
    simp only [okE, Bool.and_eq_true] at c
    have h : PE X (E.isi a t p1 p0 p).syn (rE X C W hx (.isi a t p1 p0 p)) := s_isi C W hx G c.1 c.2.1 (sndE a k hx X W G c.2.2).1
    exact ⟨h, t_val C W hx h rfl⟩
  | .leni f cc a p0 p, k, hx, X, W, G, c => by
    simp only [okE, Bool.and_eq_true] at c
    have h : PE X (E.leni f cc a p0 p).syn (rE X C W hx (.leni f cc a p0 p)) := s_leni C W hx G c.1 c.2.1 (sndE a k hx X W G c.2.2).1
    exact ⟨h, t_val C W hx h rfl⟩
  | .mth m a es p1 p, k, hx, X, W, G, c => by
    simp only [okE, Bool.and_eq_true, decide_eq_true_eq] at c
    have h : PE X (E.mth m a es p1 p).syn (rE X C W hx (.mth m a es p1 p)) := s_mth C W hx c.1 c.2.1 c.2.2.1 G.hu (sndE a k hx X W G c.2.2.2.1).1 (sndEs es k hx X W G c.2.2.2.2).1
    exact ⟨h, t_val C W hx h rfl⟩
  | .lc mf elt tg it cs own sc p, k, hx, X, W, G, c => by
    simp only [okE, Bool.and_eq_true] at c
    obtain ⟨c1, c2, c3, c4, c5, c6, c7⟩ := c
    have h : PE X (E.lc mf elt tg it cs own sc p).syn (rE X C W hx (.lc mf elt tg it cs own sc p)) := s_lc C W hx (G.calm c1) G.nd (by rw [G.hN, G.sc]; exact blkOk_by c2) (own_of c3) (sndI it tg k hx X W G c4)
      (fun s H A cl fp => sndTg tg _ _ _ _ (G.blk s H sc cl A fp) c5) (fun s H A cl fp => (sndO cs _ _ _ _ (G.blk s H sc cl A fp) c6).2) (fun s H A cl fp => (sndE elt _ _ _ _ (G.blk s H sc cl A fp) c7).1) (fold_it it X.env) (G.hc0 c1)
    exact ⟨h, t_val C W hx h rfl⟩
  | .lc2 mf elt tg it cs tg' it' cs' own vs' sc p, k, hx, X, W, G, c => by
    simp only [okE, Bool.and_eq_true] at c
    obtain ⟨c1, c2, ⟨c3, c3', c3''⟩, c4, c5, c6, c7, c8, c9, c10⟩ := c
    have h : PE X (E.lc2 mf elt tg it cs tg' it' cs' own vs' sc p).syn (rE X C W hx (.lc2 mf elt tg it cs tg' it' cs' own vs' sc p)) := s_lc2 C W hx (G.calm c1) G.nd (by rw [G.hN, G.sc]; exact blkOk_by c2) (own_of c3) (own_of c3') (own_of c3'') (sndI it tg k hx X W G c4)
      (fun s H A cl fp => sndTg tg _ _ _ _ (G.blk s H sc cl A fp) c5) (fun s H A cl fp => (sndO cs _ _ _ _ (G.blk s H sc cl A fp) c6).2) (fun s H A cl fp => sndI it' tg' _ _ _ _ (G.blk s H sc cl A fp) c7) (fun s H A cl fp => sndTg tg' _ _ _ _ (G.blk s H sc cl A fp) c8)
      (fun s H A cl fp => (sndO cs' _ _ _ _ (G.blk s H sc cl A fp) c9).2) (fun s H A cl fp => (sndE elt _ _ _ _ (G.blk s H sc cl A fp) c10).1) (fold_it it X.env) (fold_it it') (G.hc0 c1)
    exact ⟨h, t_val C W hx h rfl⟩
theorem sndEs : ∀ (es : Es) (k : Kx) (hx : HX) (X : Cx) (W : WX), Gd T C k hx X W → okEs T k es = true → PA X es.syn (rEs X C W hx es) ∧ (∀ p, PE X (.BoolOp .And es.syn p) (rAnd X C W hx es)) ∧ (∀ p, PE X (.BoolOp .Or es.syn p) (rOr X C W hx es)) ∧
    (∀ p, PW X (.BoolOp .And es.syn p) (rTAnd X C W hx es)) ∧ (∀ p, PW X (.BoolOp .Or es.syn p) (rTOr X C W hx es))
  | .nil, k, hx, X, W, G, c => ⟨a_nil C W hx, fun p => s_and0 C W hx, fun p => s_or0 C W hx, fun p => t_and0 C W hx, fun p => t_or0 C W hx⟩
  | .cons a .nil, k, hx, X, W, G, c => by
    simp only [okEs, Bool.and_eq_true] at c
    obtain ⟨h1, h2⟩ := sndE a k hx X W G c.1
    exact ⟨a_cons C W hx h1 (a_nil C W hx), fun p => s_and1 C W hx h1, fun p => s_or1 C W hx h1, fun p => t_and1 C W hx h2, fun p => t_or1 C W hx h2⟩
  | .cons a (.cons b r), k, hx, X, W, G, c => by
    rw [okEs, Bool.and_eq_true] at c
    obtain ⟨h1, h2⟩ := sndE a k hx X W G c.1
    obtain ⟨r1, r2, r3, r4, r5⟩ := sndEs (.cons b r) k hx X W G c.2
    exact ⟨a_cons C W hx h1 r1, fun p => s_and2 C W hx h1 (r2 p), fun p => s_or2 C W hx h1 (r3 p), fun p => t_and2 C W hx h2 (r4 p), fun p => t_or2 C W hx h2 (r5 p)⟩
theorem sndK : ∀ (ks : Ks) (k : Kx) (hx : HX) (X : Cx) (W : WX), Gd T C k hx X W → okK T k ks = true → PK X ks.syn (rKs X C W hx ks)
  | .nil, k, hx, X, W, G, c => k_nil C W hx
  | .cons n a p r, k, hx, X, W, G, c => by
    simp only [okK, Bool.and_eq_true] at c
    exact k_cons C W hx (sndE a k hx X W G c.1).1 (sndK r k hx X W G c.2)
theorem sndO : ∀ (o : Oe) (k : Kx) (hx : HX) (X : Cx) (W : WX), Gd T C k hx X W → okO T k o = true → PO X o.syn (rO X C W hx o) ∧ PTs X o.lsyn (rTs X C W hx o)
  | .none, k, hx, X, W, G, c => ⟨o_none C W hx, t_none W hx⟩
  | .some a, k, hx, X, W, G, c => ⟨o_some C W hx (sndE a k hx X W G c).1, t_some W hx (sndE a k hx X W G c).2⟩
theorem sndI : ∀ (it : It) (tg : Tg) (k : Kx) (hx : HX) (X : Cx) (W : WX), Gd T C k hx X W → okI T k tg it = true → PI X tg.syn it.syn (rI X C W hx it)
  | .exp a, tg, k, hx, X, W, G, c => i_exp C W hx (sndE a k hx X W G c).1
  | .rng es p0 p, tg, k, hx, X, W, G, c => by
    simp only [okI, Bool.and_eq_true, Bool.or_eq_true, decide_eq_true_eq] at c
    exact i_rng C W hx G c.1 c.2.1 (sndEs es k hx X W G c.2.2).1
  | .enu a p0 p, tg, k, hx, X, W, G, c => by
    simp only [okI, Bool.and_eq_true] at c
    cases tg with
    | tup ts kk pt => exact i_enu C W hx G c.1 (sndE a k hx X W G c.2.2).1
    | _ => exact absurd c.2.1 Bool.false_ne_true
  | .zip a b p0 p, tg, k, hx, X, W, G, c => by
    simp only [okI, Bool.and_eq_true] at c
    cases tg with
    | tup ts kk pt => exact i_zip C W hx G c.1 (sndE a k hx X W G c.2.2.1).1 (sndE b k hx X W G c.2.2.2).1
    | _ => exact absurd c.2.1 Bool.false_ne_true
  | .vals a p1 p, tg, k, hx, X, W, G, c => by
    simp only [okI, Bool.and_eq_true] at c
    exact i_vals C W hx c.1 c.2.1 (sndE a k hx X W G c.2.2).1
  | .items _ _ _, tg, k, hx, X, W, G, c => by
    cases c
theorem sndTg : ∀ (t : Tg) (k : Kx) (hx : HX) (X : Cx) (W : WX), Gd T C k hx X W → okT T k t = true → PG X t.syn (rG X C hx t)
  | .var i x p, k, hx, X, W, G, c => g_var C W hx G c
  | .tup ts kk p, k, hx, X, W, G, c => by
    simp only [okT, Bool.and_eq_true] at c
    exact g_tup C hx (G.calm c.1) (sndTgs ts k hx X W G c.2)
  | .sub a b p, k, hx, X, W, G, c => by
    simp only [okT, Bool.and_eq_true] at c
    exact g_sub C W hx G.hu (sndE a k hx X W G c.1).1 (sndE b k hx X W G c.2).1
  | .fld a f p, k, hx, X, W, G, c => g_fld C W hx G (sndE a k hx X W G c).1
theorem sndTgs : ∀ (ts : Tgs) (k : Kx) (hx : HX) (X : Cx) (W : WX), Gd T C k hx X W → okTs T k ts = true → PGs X ts.syn (rGs X C hx ts)
  | .nil, k, hx, X, W, G, c => gs_nil C hx
  | .cons t r, k, hx, X, W, G, c => by
    simp only [okTs, Bool.and_eq_true] at c
    exact gs_cons C hx (sndTg t k hx X W G c.1) (sndTgs r k hx X W G c.2)
end
end
end Rf
/-! Statements: checks, readings, the simple cases. -/
namespace Rf
open PySem PySem.Spec PyProof.Rows L2
/-! ### checks -/
def fnK (sc : Scope) : Bool := match sc.kind with
  | .function => true
  | _ => false
def lcB : E → Bool
  | .lc _ _ _ _ _ _ _ _ => true
  | .lc2 _ _ _ _ _ _ _ _ _ _ _ _ => true
  | _ => false
def plainN (sc : Scope) (line : Nat) : Expr → Option Str
  | .Name id pos => if sc.names.lookup id = some .local ∧ pos.line = line then some id else none
  | _ => none
def lineOf (ts : List Expr) : Nat := (ts.head?.map (·.pos.line)).getD 0
/-- a display into targets, not by swapped stores -/
def offB (sc : Scope) (ts vs : List Expr) : Bool := !(ts.length == 2 || ts.length == 3) || (vs.length != ts.length || ((ts.filterMap (plainN sc (lineOf ts))).length != ts.length || vs.all (foldedForSure 8)))
/-- the block's value goes to its name by a swapped store -/
def swpB (k : Kx) (y : Str) (py : Pos) (sc : Scope) (pl : Pos) : Bool := decide (k.sc.names.lookup y = some .local) && ((py.line == pl.line) && !(sc.names.any fun (n, j) => n == y && (j == .local || j == .cell)))
def asgB (k : Kx) : Tg → E → Bool
  | .var _ y py, .lc _ _ _ _ _ _ sc pl => fnK k.sc && (!swpB k y py sc pl || k.calm)
  | .var _ y py, .lc2 _ _ _ _ _ _ _ _ _ _ sc pl => fnK k.sc && (!swpB k y py sc pl || k.calm)
  | .tup ts _ _, .tup es _ _ => fnK k.sc && offB k.sc ts.syn es.syn
  | _, _ => true
def lclB (k : Kx) (i : Nat) (x : Str) : Bool := decide (k.N[i]? = some x) && decide (k.sc.names.lookup x = some .local)
def catB (T : Tab) (k : Kx) : S → Bool
  | .hd x _ nm _ _ r => (glB k x && (T.exs.contains x || T.exf.any fun q => decide (q.1 = x))) && ((match nm with
    | some q => lclB k q.1 q.2
    | none => true) && catB T k r)
  | .skip => true
  | _ => false
def Kx.suite (k : Kx) (nm : Option (Nat × Str)) : Kx := { k with calm := false, xv := nm.map (·.1) }
def isSeq : S → Bool
  | .seq _ _ => true
  | _ => false
def augB : Operator → Bool
  | .Add => true
  | .Sub => true
  | _ => false
mutual
/-- one statement -/
def okS (T : Tab) : Kx → S → Bool
  | k, .asg t e _ => okT T k t && (okE T k e && asgB k t e)
  | k, .par2 i j x y a b px py _ _ _ _ _ => k.calm && (fnK k.sc && ((lclB k i x && lclB k j y) && (decide (i ≠ j) && (decide (x ≠ y) && ((px.line == py.line) && ((okE T k a && okE T k b) && (!(foldedForSure 8 a.syn && foldedForSure 8 b.syn) && !(constantsAlone 8 a.syn && constantsAlone 8 b.syn))))))))
  | k, .par3 i j l x y z a b c px py pz _ _ _ _ _ => k.calm && (fnK k.sc && ((lclB k i x && (lclB k j y && lclB k l z)) && ((decide (i ≠ j) && (decide (i ≠ l) && decide (j ≠ l))) && ((decide (x ≠ y) && (decide (x ≠ z) && decide (y ≠ z))) && (((px.line == py.line) && (px.line == pz.line)) && ((okE T k a && (okE T k b && okE T k c)) &&
      (!(foldedForSure 8 a.syn && (foldedForSure 8 b.syn && foldedForSure 8 c.syn)) && !(constantsAlone 8 a.syn && (constantsAlone 8 b.syn && constantsAlone 8 c.syn)))))))))
  | k, .aug o i x _ e _ => augB o && (locB k i x && okE T k e)
  | k, .exp e _ => !lcB e && okE T k e
  | k, .ret e _ => okE T k e
  | _, .retN _ => true
  | k, .ite c a b _ => okE T k c && (okB T k a && okB T k b)
  | k, .for_ t it b _ => k.calm && (k.top && (okI T k t it && (okT T k t && okB T k b)))
  | k, .whl c b _ => k.calm && (k.top && (okE T k c && okB T k b))
  | _, .brk _ => true
  | _, .cnt _ => true
  | _, .pas _ => true
  | k, .rai x _ _ _ _ _ _ => k.calm && (k.top && (glB k x && T.exs.contains x))
  | k, .raf x f e _ _ _ => k.calm && (k.top && (glB k x && (decide ((x, f) ∈ T.exf) && okE T k e)))
  | k, .try_ b hs _ => k.calm && (k.top && (isHd hs && (okB T k b && (catB T k hs && okH T k hs))))
  | _, .skip => false
  | _, .seq _ _ => false
  | _, .hd _ _ _ _ _ _ => false
/-- a block -/
def okB (T : Tab) : Kx → S → Bool
  | _, .skip => true
  | k, .seq a b => okS T k a && okB T k b
  | _, _ => false
/-- the except clauses' suites -/
def okH (T : Tab) : Kx → S → Bool
  | _, .skip => true
  | k, .hd _ _ nm b _ r => isSeq b && (okB T (k.suite nm) b && okH T k r)
  | _, _ => false
def isHd : S → Bool
  | .hd _ _ _ _ _ _ => true
  | _ => false
end
/-! ### the context -/
structure RfX (T : Tab) (X : Cx) (x f : Str) : Prop where
  ok : XfOk X.K (He.ga X.K x) f
  glo : X.mg x = some (.ref (He.ga X.K x))
  ox : OexC X.K (He.ga X.K x)
  run : ∃ fI n fd ps, PySem.W.findIn X.K (.ref (He.ga X.K x)) "__init__" = some (some (.ref fI)) ∧ PySem.W.typeIn X.K (.ref fI) = some (.type "function") ∧ Room (n + 1) X.A ∧ Binds X.K fd ps [] ∧
    FnOk X.prog X.w X.K X.mg X.base (L2.CX X.prog X.w) n fI fd ps (fun vs H Q E => ∃ a v, vs = [.ref a, v] ∧ H a = some (exo a (He.ga X.K x) none) ∧ ∀ dx, H dx = none → dx ≠ a → Q .non (upd (upd H dx (exd dx [(f, v)])) a (exo a (He.ga X.K x) (some dx))))
structure Gs (T : Tab) (C : Ct) (k : Kx) (hx : HX) (X : Cx) (W : WX) : Prop where
  g : Gd T C k hx X W
  stk : k.top = true → X.stack = X.env :: X.outer ∧ X.env.frame = some X.env.locals
  own : k.top = true → k.calm = true → PassesOwn (model X.prog X.w) X.A X.env X.xe
  exs : ∀ x ∈ T.exs, X.mg x = some (.ref (He.ga X.K x)) ∧ PySem.W.excIn X.K (He.ga X.K x) He.veBase "ValueError.__new__" = true ∧ PySem.W.keepIn X.K (.ref (He.ga X.K x)) = true ∧ Raises X (.ref (He.ga X.K x))
  exf : k.calm = true → ∀ x f, (x, f) ∈ T.exf → RfX T X x f
  sub : ∀ x y b, C.sub x y = some b → X.mg y = some (.ref (He.ga X.K y)) ∧ PySem.W.exmOne X.K (.ref (He.ga X.K x)) (.ref (He.ga X.K y)) = some b
/-! ### readings -/
def PostO (X : Cx) (W : WX) (hx : HX) (D : Ends) (F : Hp) (m : List Addr) (H : Hp) : Out → Prop
  | .nx e h => ∀ σ' F' m' H', Stp F m H F' m' H' → Sep X.prog X.w X.K m' F' h H' → Envs X.prog X.w X.K hx m' F' σ' e → D.nx σ' H'
  | .bk e h => ∀ σ' F' m' H', Stp F m H F' m' H' → Sep X.prog X.w X.K m' F' h H' → Envs X.prog X.w X.K hx m' F' σ' e → D.bk σ' H'
  | .ct e h => ∀ σ' F' m' H', Stp F m H F' m' H' → Sep X.prog X.w X.K m' F' h H' → Envs X.prog X.w X.K hx m' F' σ' e → D.ct σ' H'
  | .rt u h => ∀ v F' m' H', Stp F m H F' m' H' → Sep X.prog X.w X.K m' F' h H' → RW X.prog X.w X.K m' F' v u → D.rt v H'
  | .ex x e h => ∀ dx σ' F' m' H', Stp F m H F' m' H' → Sep X.prog X.w X.K m' F' h H' → Envs X.prog X.w X.K hx m' F' σ' e → ExR X.prog X.w X.K F' H' x dx → W (.ref (He.ga X.K x.cls)) dx σ' H'
  | .no => False
def rS (X : Cx) (C : Ct) (W : WX) (hx : HX) (s : S) : TS := fun D σ H => ∃ F m h env, Sep X.prog X.w X.K m F h H ∧ Envs X.prog X.w X.K hx m F σ env ∧ PostO X W hx D F m H (evS C s env h)
section
variable {X : Cx} {C : Ct} {W : WX} {hx : HX} {D : Ends} {σ : L2.St} {env : Env} {F F' H H' : Hp} {m m' : List Addr} {h : Hs}
theorem PostO.step {o : Out} (s : Stp F m H F' m' H') (p : PostO X W hx D F m H o) : PostO X W hx D F' m' H' o := by
  cases o with
  | nx e h => exact fun σ' F2 m2 H2 t => p σ' F2 m2 H2 (s.trans t)
  | bk e h => exact fun σ' F2 m2 H2 t => p σ' F2 m2 H2 (s.trans t)
  | ct e h => exact fun σ' F2 m2 H2 t => p σ' F2 m2 H2 (s.trans t)
  | rt u h => exact fun σ' F2 m2 H2 t => p σ' F2 m2 H2 (s.trans t)
  | ex x e h => exact fun dx σ' F2 m2 H2 t => p dx σ' F2 m2 H2 (s.trans t)
  | no => exact p
theorem ps_of {st : Stmt} {t t' : TS} (q : PS X st t) (g : ∀ D σ H, t' D σ H → t D σ H) : PS X st t' := ⟨fun pins s σ H D I hq => q.run pins s σ H D I (g D σ H hq)⟩
/-- an expression, then the rest of a statement -/
theorem eS {e : E} {k : Rf.W → Hs → Out} {Q' : VK} (sep : Sep X.prog X.w X.K m F h H) (en : Envs X.prog X.w X.K hx m F σ env) (p : PostO X W hx D F m H ((evE C e env h).out env k))
    (g : ∀ a h' b F' m' H', Stp F m H F' m' H' → Sep X.prog X.w X.K m' F' h' H' → Envs X.prog X.w X.K hx m' F' σ env → RW X.prog X.w X.K m' F' b a → PostO X W hx D F' m' H' (k a h') → Q' b H') : rE X C W hx e σ H Q' := by
  refine ⟨F, m, h, env, sep, en, ?_⟩
  cases r : evE C e env h with
  | ok a h' =>
    rw [r] at p
    exact fun b F' m' H' t s q => g a h' b F' m' H' t s (en.stp t) q (PostO.step t p)
  | ex x h' =>
    rw [r] at p
    exact fun dx F' m' H' t s q => p dx σ F' m' H' t s (en.stp t) q
  | no =>
    rw [r] at p
    exact p
theorem eST {e : E} {k : Bool → Hs → Out} {Q' : Bool → Hp → Prop} (sep : Sep X.prog X.w X.K m F h H) (en : Envs X.prog X.w X.K hx m F σ env) (p : PostO X W hx D F m H ((tst (evE C e env h)).out env k))
    (g : ∀ a h' F' m' H', Stp F m H F' m' H' → Sep X.prog X.w X.K m' F' h' H' → Envs X.prog X.w X.K hx m' F' σ env → PostO X W hx D F' m' H' (k a h') → Q' a H') : rT X C W hx e σ H Q' := by
  refine ⟨F, m, h, env, sep, en, ?_⟩
  cases r : tst (evE C e env h) with
  | ok a h' =>
    rw [r] at p
    exact fun b F' m' H' t s q => by subst q; exact g _ h' F' m' H' t s (en.stp t) (PostO.step t p)
  | ex x h' =>
    rw [r] at p
    exact fun dx F' m' H' t s q => p dx σ F' m' H' t s (en.stp t) q
  | no =>
    rw [r] at p
    exact p
variable (C W hx) {T : Tab} {k : Kx} (G : Gs T C k hx X W)
/-! ### simple statements -/
section
variable {e : E} {p : Pos}
theorem z_pas : PS X (S.pas p).syn (rS X C W hx (.pas p)) := ps_of ps_pass fun D σ H ⟨F, m, h, env, sep, en, q⟩ => by
  unfold evS at q
  exact q σ F m H Stp.refl sep en
theorem z_brk : PS X (S.brk p).syn (rS X C W hx (.brk p)) := ps_of ps_break fun D σ H ⟨F, m, h, env, sep, en, q⟩ => by
  unfold evS at q
  exact q σ F m H Stp.refl sep en
theorem z_cnt : PS X (S.cnt p).syn (rS X C W hx (.cnt p)) := ps_of ps_continue fun D σ H ⟨F, m, h, env, sep, en, q⟩ => by
  unfold evS at q
  exact q σ F m H Stp.refl sep en
theorem z_retN : PS X (S.retN p).syn (rS X C W hx (.retN p)) := ps_of ps_retN fun D σ H ⟨F, m, h, env, sep, en, q⟩ => by
  unfold evS at q
  exact q .non F m H Stp.refl sep (.d .non)
theorem z_ret (ha : PE X e.syn (rE X C W hx e)) : PS X (S.ret e p).syn (rS X C W hx (.ret e p)) := ps_of (ps_ret ha) fun D σ H ⟨F, m, h, env, sep, en, q⟩ => by
  unfold evS at q
  exact eS sep en q fun w1 h1 v1 F1 m1 H1 t1 s1 e1 r1 p1 => p1 v1 F1 m1 H1 Stp.refl s1 r1
theorem swap_none (e : E) (l : Nat) (env : PySem.Env) (hl : lcB e = false) (t : Option Expr) : swapsWith e.syn t l env = pure false := by
  cases e <;> first | rfl | cases hl
theorem z_exp (hl : lcB e = false) (ha : PE X e.syn (rE X C W hx e)) : PS X (S.exp e p).syn (rS X C W hx (.exp e p)) := ps_of (ps_expr ha (swap_none e _ _ hl none)) fun D σ H ⟨F, m, h, env, sep, en, q⟩ => by
  unfold evS at q
  exact eS sep en q fun w1 h1 v1 F1 m1 H1 t1 s1 e1 r1 p1 => p1 σ F1 m1 H1 Stp.refl s1 e1
theorem z_ite {a b : S} (hc : PT X e.syn (rT X C W hx e)) (ha : PSs X a.blk (rS X C W hx a)) (hb : PSs X b.blk (rS X C W hx b)) : PS X (S.ite e a b p).syn (rS X C W hx (.ite e a b p)) := ps_of (ps_if hc ha hb) fun D σ H ⟨F, m, h, env, sep, en, q⟩ => by
  unfold evS at q
  refine eST sep en q fun t h1 F1 m1 H1 t1 s1 e1 p1 => ?_
  cases t with
  | true => exact ⟨F1, m1, h1, env, s1, e1, p1⟩
  | false => exact ⟨F1, m1, h1, env, s1, e1, p1⟩
theorem b_skip : PSs X S.skip.blk (rS X C W hx .skip) := ⟨fun pins s σ H D I ⟨F, m, h, env, sep, en, q⟩ => pss_nil.run pins s σ H D I (by
  unfold evS at q
  exact q σ F m H Stp.refl sep en)⟩
theorem b_seq {a b : S} (ha : PS X a.syn (rS X C W hx a)) (hb : PSs X b.blk (rS X C W hx b)) : PSs X (S.seq a b).blk (rS X C W hx (.seq a b)) := ⟨fun pins s σ H D I ⟨F, m, h, env, sep, en, q⟩ => (pss_cons ha hb).run pins s σ H D I (by
  unfold evS at q
  refine ⟨F, m, h, env, sep, en, ?_⟩
  cases r : evS C a env h with
  | nx e1 h1 =>
    rw [r] at q
    exact fun σ' F' m' H' t s e => ⟨F', m', h1, e1, s, e, PostO.step t q⟩
  | rt u h1 => rw [r] at q; exact q
  | bk e1 h1 => rw [r] at q; exact q
  | ct e1 h1 => rw [r] at q; exact q
  | ex x e1 h1 => rw [r] at q; exact q
  | no => rw [r] at q; exact q)⟩
end
end
end Rf
/-! Statements: assignments, raises, loops. -/
namespace Rf
open PySem PySem.Spec PyProof.Rows L2
/-! ### swapped stores -/
theorem nostar (e : E) : (match e.syn with
    | .Starred _ _ => true
    | _ => false) = false := by
  cases e <;> rfl
section
variable {sc : Scope} {env : PySem.Env}
theorem blk_kind (hs : env.scope = sc) (hk : fnK sc = true) : env.blockKind = .function := by
  unfold fnK at hk
  unfold Env.blockKind
  rw [hs]
  cases h : sc.kind <;> rw [h] at hk <;> first | rfl | cases hk
theorem swp_two {x y : Str} {a b : E} {px py pt pv : Pos} {kt kv : Nat} (hs : env.scope = sc) (hk : fnK sc = true) (hx : sc.names.lookup x = some .local) (hy : sc.names.lookup y = some .local) (ne : x ≠ y) (hl : (px.line == py.line) = true)
    (h1 : (foldedForSure 8 a.syn && foldedForSure 8 b.syn) = false) (h2 : (constantsAlone 8 a.syn && constantsAlone 8 b.syn) = false) : swappedStores [.Tuple [.Name x px, .Name y py] kt pt] (.Tuple [a.syn, b.syn] kv pv) env = pure (some [x, y]) := by
  have kx : env.kindOf x = some .local := by show env.scope.names.lookup x = _; rw [hs]; exact hx
  have ky : env.kindOf y = some .local := by show env.scope.names.lookup y = _; rw [hs]; exact hy
  have hb := blk_kind hs hk
  have sa := nostar a
  have sb := nostar b
  have hl' : py.line = px.line := (beq_iff_eq.mp hl).symm
  have hd : [x, y].eraseDups = [x, y] := by
    have : (x == y) = false := beq_eq_false_iff_ne.mpr ne
    have : (y == x) = false := beq_eq_false_iff_ne.mpr (Ne.symm ne)
    simp [List.eraseDups_cons, this, *]
  unfold swappedStores
  simp [kx, ky, hb, sa, sb, hl', hd, h1, h2, Expr.pos]
  intro z
  rcases z with z | z
  · cases a <;> cases z
  · cases b <;> cases z
theorem swp_three {x y z : Str} {a b c : E} {px py pz pt pv : Pos} {kt kv : Nat} (hs : env.scope = sc) (hk : fnK sc = true) (hx : sc.names.lookup x = some .local) (hy : sc.names.lookup y = some .local) (hz : sc.names.lookup z = some .local) (n1 : x ≠ y) (n2 : x ≠ z) (n3 : y ≠ z) (hl : (px.line == py.line) = true) (hm : (px.line == pz.line) = true)
    (h1 : (foldedForSure 8 a.syn && (foldedForSure 8 b.syn && foldedForSure 8 c.syn)) = false) (h2 : (constantsAlone 8 a.syn && (constantsAlone 8 b.syn && constantsAlone 8 c.syn)) = false) :
    swappedStores [.Tuple [.Name x px, .Name y py, .Name z pz] kt pt] (.Tuple [a.syn, b.syn, c.syn] kv pv) env = pure (some [x, y, z]) := by
  have kx : env.kindOf x = some .local := by show env.scope.names.lookup x = _; rw [hs]; exact hx
  have ky : env.kindOf y = some .local := by show env.scope.names.lookup y = _; rw [hs]; exact hy
  have kz : env.kindOf z = some .local := by show env.scope.names.lookup z = _; rw [hs]; exact hz
  have hb := blk_kind hs hk
  have hl' : py.line = px.line := (beq_iff_eq.mp hl).symm
  have hm' : pz.line = px.line := (beq_iff_eq.mp hm).symm
  have hd : [x, y, z].eraseDups = [x, y, z] := by
    have e1 : (y == x) = false := beq_eq_false_iff_ne.mpr (Ne.symm n1)
    have e2 : (z == x) = false := beq_eq_false_iff_ne.mpr (Ne.symm n2)
    have e3 : (z == y) = false := beq_eq_false_iff_ne.mpr (Ne.symm n3)
    simp [List.eraseDups_cons, e1, e2, e3]
  unfold swappedStores
  simp [kx, ky, kz, hb, hl', hm', hd, h1, h2, Expr.pos]
  intro q
  rcases q with q | q | q
  · cases a <;> cases q
  · cases b <;> cases q
  · cases c <;> cases q
theorem swp_off {ts vs : List Expr} {pt pv : Pos} {kt kv : Nat} (hs : env.scope = sc) (hk : fnK sc = true) (h : offB sc ts vs = true) : swappedStores [.Tuple ts kt pt] (.Tuple vs kv pv) env = pure none := by
  have hb := blk_kind hs hk
  have kd : ∀ x, env.kindOf x = sc.names.lookup x := fun x => by show env.scope.names.lookup x = _; rw [hs]
  unfold offB at h
  simp only [Bool.or_eq_true, Bool.not_eq_true', bne_iff_ne] at h
  unfold swappedStores
  simp [hb]
  intro a1 a2 a3 a4 a5 x hx a6
  exfalso
  rcases h with h | h | h | h
  · simp at h
    exact h.2 (a1 h.1)
  · exact h a2
  · refine h ?_
    have all : ∀ l : List Expr, (∀ x ∈ l, x ∈ ts) → (l.filterMap (plainN sc (lineOf ts))).length = l.length := by
      intro l
      induction l with
      | nil => intro _; rfl
      | cons y r ih =>
        intro hl
        have hy := a4 y (hl y (List.mem_cons_self ..))
        have e : ∃ z, plainN sc (lineOf ts) y = some z := by
          unfold plainN lineOf
          cases y with
          | Name id pos =>
            simp only [kd] at hy ⊢
            split at hy
            · rename_i q
              exact ⟨id, by rw [if_pos q]⟩
            · exact absurd rfl hy
          | _ => exact absurd rfl hy
        obtain ⟨z, e⟩ := e
        rw [List.filterMap_cons, e]
        simp only [List.length_cons]
        rw [ih fun x hx => hl x (List.mem_cons_of_mem _ hx)]
    exact all ts fun _ hx => hx
  · have := List.all_eq_true.mp h x hx
    rw [this] at a6
    cases a6
end
section
variable {X : Cx} (C : Ct) (W : WX) (hx : HX) {T : Tab} {k : Kx} (G : Gs T C k hx X W)
theorem lcl_of {i : Nat} {x : Str} (G : Gs T C k hx X W) (c : lclB k i x = true) : X.N[i]? = some x ∧ k.sc.names.lookup x = some .local := by
  unfold lclB at c
  simp only [Bool.and_eq_true, decide_eq_true_eq] at c
  exact ⟨by rw [G.g.hN]; exact c.1, c.2⟩
include G
theorem z_par2 {i j : Nat} {x y : Str} {a b : E} {px py pt pv p : Pos} {kt kv : Nat} (c1 : k.calm = true) (c2 : fnK k.sc = true) (c3 : lclB k i x = true) (c4 : lclB k j y = true) (c5 : i ≠ j) (c6 : x ≠ y) (c7 : (px.line == py.line) = true) (ha : PE X a.syn (rE X C W hx a)) (hb : PE X b.syn (rE X C W hx b))
    (h1 : (foldedForSure 8 a.syn && foldedForSure 8 b.syn) = false) (h2 : (constantsAlone 8 a.syn && constantsAlone 8 b.syn) = false) : PS X (S.par2 i j x y a b px py pt kt kv pv p).syn (rS X C W hx (.par2 i j x y a b px py pt kt kv pv p)) := by
  obtain ⟨n1, l1⟩ := lcl_of C W hx G c3
  obtain ⟨n2, l2⟩ := lcl_of C W hx G c4
  refine ps_of (ps_par (G.g.calm c1) G.g.nd n1 n2 c5 (by rw [G.g.sc]; exact l1) (by rw [G.g.sc]; exact l2) (pa_cons ha (pa_cons hb pa_nil (star_syn b [] X.env)) (star_syn a _ X.env)) (swp_two G.g.sc c2 l1 l2 c6 c7 h1 h2)) fun D σ H ⟨F, m, h, env, sep, en, q⟩ => ?_
  unfold evS at q
  refine eS sep en q fun w1 h1 v1 F1 m1 H1 t1 s1 e1 r1 p1 => ?_
  refine eS s1 e1 p1 fun w2 h2 v2 F2 m2 H2 t2 s2 e2 r2 p2 => ?_
  exact ⟨v1, v2, rfl, p2 _ F2 m2 H2 Stp.refl s2 ((e2.set (r1.stp t2)).set r2)⟩
theorem z_par3 {i j l : Nat} {x y z : Str} {a b c : E} {px py pz pt pv p : Pos} {kt kv : Nat} (c1 : k.calm = true) (c2 : fnK k.sc = true) (c3 : lclB k i x = true) (c4 : lclB k j y = true) (c4' : lclB k l z = true) (c5 : i ≠ j) (c5' : i ≠ l) (c5'' : j ≠ l) (c6 : x ≠ y) (c6' : x ≠ z) (c6'' : y ≠ z) (c7 : (px.line == py.line) = true) (c7' : (px.line == pz.line) = true)
    (ha : PE X a.syn (rE X C W hx a)) (hb : PE X b.syn (rE X C W hx b)) (hc : PE X c.syn (rE X C W hx c))
    (h1 : (foldedForSure 8 a.syn && (foldedForSure 8 b.syn && foldedForSure 8 c.syn)) = false) (h2 : (constantsAlone 8 a.syn && (constantsAlone 8 b.syn && constantsAlone 8 c.syn)) = false) : PS X (S.par3 i j l x y z a b c px py pz pt kt kv pv p).syn (rS X C W hx (.par3 i j l x y z a b c px py pz pt kt kv pv p)) := by
  obtain ⟨n1, l1⟩ := lcl_of C W hx G c3
  obtain ⟨n2, l2⟩ := lcl_of C W hx G c4
  obtain ⟨n3, l3⟩ := lcl_of C W hx G c4'
  refine ps_of (ps_par3 (G.g.calm c1) G.g.nd n1 n2 n3 c5 c5' c5'' (by rw [G.g.sc]; exact l1) (by rw [G.g.sc]; exact l2) (by rw [G.g.sc]; exact l3) (pa_cons ha (pa_cons hb (pa_cons hc pa_nil (star_syn c [] X.env)) (star_syn b _ X.env)) (star_syn a _ X.env)) (swp_three G.g.sc c2 l1 l2 l3 c6 c6' c6'' c7 c7' h1 h2)) fun D σ H ⟨F, m, h, env, sep, en, q⟩ => ?_
  unfold evS at q
  refine eS sep en q fun w1 h1 v1 F1 m1 H1 t1 s1 e1 r1 p1 => ?_
  refine eS s1 e1 p1 fun w2 h2 v2 F2 m2 H2 t2 s2 e2 r2 p2 => ?_
  refine eS s2 e2 p2 fun w3 h3 v3 F3 m3 H3 t3 s3 e3 r3 p3 => ?_
  exact ⟨v1, v2, v3, rfl, p3 _ F3 m3 H3 Stp.refl s3 (((e3.set ((r1.stp t2).stp t3)).set (r2.stp t3)).set r3)⟩
theorem z_aug {o : Operator} {i : Nat} {x : Str} {e : E} {px p : Pos} (c0 : augB o = true) (c : locB k i x = true) (ha : PE X e.syn (rE X C W hx e)) : PS X (S.aug o i x px e p).syn (rS X C W hx (.aug o i x px e p)) := by
  unfold locB at c
  simp only [Bool.and_eq_true, Bool.or_eq_true, decide_eq_true_eq] at c
  obtain ⟨c1, c2⟩ := c
  have hl : Loc X.env.scope x := by
    rw [G.g.sc]
    exact c2.elim .inl fun z => .inr z.1
  have hf : X.fn x = true ∨ X.env.scope.names.lookup x = some .local := by
    rw [G.g.sc]
    exact c2.elim .inr fun z => .inl (G.g.fc x z.2)
  have hi : X.N[i]? = some x := by rw [G.g.hN]; exact c1
  have main : ∀ (f : Int → Int → Int), PIp X o (ipI f) → (∀ (a b : Int) (h1 : Hs) (e : Rf.Env), (match (generalizing := false) o with
        | .Add => Out.nx (e.set i (some (.d (.int (a + b))))) h1
        | .Sub => .nx (e.set i (some (.d (.int (a - b))))) h1
        | _ => .no) = Out.nx (e.set i (some (.d (.int (f a b))))) h1) → PS X (S.aug o i x px e p).syn (rS X C W hx (.aug o i x px e p)) := fun f hp he => by
    refine ps_of (ps_aug G.g.nd hi hl ha hp hf) fun D σ H ⟨F, m, h, env, sep, en, q⟩ => ?_
    unfold evS at q
    split at q
    · rename_i a ea
      obtain ⟨z, h1, h2⟩ := en.at_ i _ ea
      cases h2 with
      | d h2 =>
        cases h2
        refine ⟨.int a, ?_, ?_⟩
        · cases e2 : σ[i]? with
          | none => rw [e2] at h1; cases h1
          | some o => rw [e2] at h1; exact congrArg some h1
        · refine eS sep en q fun w1 h1 v1 F1 m1 H1 t1 s1 e1 r1 p1 => ?_
          split at p1
          · rename_i b
            cases r1 with
            | d r1 =>
              cases r1
              have p1' : PostO X W hx D F1 m1 H1 (Out.nx (env.set i (some (.d (.int (f a b))))) h1) := by
                rw [← he a b h1 env]
                exact p1
              exact ⟨a, b, rfl, rfl, p1' _ F1 m1 H1 Stp.refl s1 (e1.set (.d (.int _)))⟩
          · exact p1.elim
    · exact q.elim
  cases o with
  | Add => exact main _ ip_add fun _ _ _ _ => rfl
  | Sub => exact main _ ip_sub fun _ _ _ _ => rfl
  | _ => cases c0
theorem z_asg {t : Tg} {e : E} {p : Pos} (c : asgB k t e = true) (h1 : swapsWithSole [t.syn] e.syn p.line X.env = pure false) (ht : PG X t.syn (rG X C hx t)) (he : PE X e.syn (rE X C W hx e)) : PS X (S.asg t e p).syn (rS X C W hx (.asg t e p)) := by
  have h2 : swappedStores [t.syn] e.syn X.env = pure none := by
    cases t with
    | tup ts kt pt =>
      cases e with
      | tup es kv pv =>
        unfold asgB at c
        simp only [Bool.and_eq_true] at c
        exact swp_off G.g.sc c.1 c.2
      | _ => rfl
    | _ => cases e <;> rfl
  refine ps_of (ps_asg he ht h1 h2 (by
    have := each_syn t [] X.env
    rw [this]
    rfl)) fun D σ H ⟨F, m, h, env, sep, en, q⟩ => ?_
  unfold evS at q
  refine eS sep en q fun w1 h1 v1 F1 m1 H1 t1 s1 e1 r1 p1 => ?_
  refine ⟨F1, m1, h1, env, .one w1, s1, e1, r1, ?_⟩
  show Post X.prog X.w X.K (TgR X hx (tvs t) σ) E0 F1 m1 H1 (asW C t w1 env h1).nx D.nx
  cases er : (asW C t w1 env h1).nx with
  | no => rw [er] at p1; exact p1.elim
  | ex x h2 => exact absurd er nx_noex
  | ok e2 h2 =>
    rw [er] at p1
    exact fun σ' F' m' H' t s r => p1 σ' F' m' H' t s r.1
theorem sole_none {t : Tg} {e : E} {l : Nat} (hl : (∃ i y py, t = .var i y py) → lcB e = false) : swapsWithSole [t.syn] e.syn l X.env = pure false := by
  cases t with
  | var i y py =>
    have := hl ⟨i, y, py, rfl⟩
    show swapsWith e.syn (some (.Name y py)) l X.env = pure false
    exact swap_none e l X.env this _
  | _ => cases e <;> rfl
theorem swp_no {y : Str} {py : Pos} {sc : Scope} {pl : Pos} (ck : fnK k.sc = true) (c : swpB k y py sc pl = false) : (X.env.blockKind == .function && X.env.kindOf y == some .local && py.line == pl.line && !(sc.names.any fun (n, j) => n == y && (j == .local || j == .cell))) = false := by
  have kd : X.env.kindOf y = k.sc.names.lookup y := by show X.env.scope.names.lookup y = _; rw [G.g.sc]
  rw [kd, blk_kind G.g.sc ck]
  unfold swpB at c
  have e : (k.sc.names.lookup y == some NameKind.local) = decide (k.sc.names.lookup y = some .local) := by
    cases z : decide (k.sc.names.lookup y = some NameKind.local) with
    | true => exact beq_iff_eq.mpr (of_decide_eq_true z)
    | false => exact beq_eq_false_iff_ne.mpr (of_decide_eq_false z)
  rw [e]
  rw [Bool.and_assoc, Bool.and_assoc]
  simpa using c
theorem z_lc {mf : Bool} {elt : E} {tg : Tg} {it : It} {cs : Oe} {own : List (Str × Nat)} {sc : Scope} {i : Nat} {y : Str} {py pl p : Pos} (ck : fnK k.sc = true) (ca : k.calm = true) (c : swpB k y py sc pl = true) (cv : locB k i y = true) (ok : BlkOk X.N X.env.scope sc own) (hv : ∀ i ∈ tvs tg, i ∈ own.map (·.2)) (hi : PI X tg.syn it.syn (rI X C W hx it))
    (hg : ∀ (s : Shared) (H : Hp) (A : Addr) (cl : List (Str × Addr)) (fp : List Addr), PG (X.blk s H sc (compEnvC sc cl A X.env) fp) tg.syn (rG X C none tg))
    (ht : ∀ (s : Shared) (H : Hp) (A : Addr) (cl : List (Str × Addr)) (fp : List Addr), PTs (X.blk s H sc (compEnvC sc cl A X.env) fp) cs.lsyn (rTs X C WF none cs))
    (he : ∀ (s : Shared) (H : Hp) (A : Addr) (cl : List (Str × Addr)) (fp : List Addr), PE (X.blk s H sc (compEnvC sc cl A X.env) fp) elt.syn (rE X C WF none elt)) : PS X (S.asg (.var i y py) (.lc mf elt tg it cs own sc pl) p).syn (rS X C W hx (.asg (.var i y py) (.lc mf elt tg it cs own sc pl) p)) := by
  unfold swpB at c
  simp only [Bool.and_eq_true, decide_eq_true_eq, Bool.not_eq_true'] at c
  obtain ⟨c3, c4, c5⟩ := c
  have c1 := ca
  have c2 := ck
  have h0 := G.g.hc0 c1
  subst h0
  have hk : X.env.scope.kind = .function := by
    rw [G.g.sc]
    unfold fnK at c2
    cases z : k.sc.kind <;> rw [z] at c2 <;> first | rfl | cases c2
  have hy : X.env.scope.names.lookup y = some .local := by rw [G.g.sc]; exact c3
  have hi' : X.N[i]? = some y := by
    unfold locB at cv
    simp only [Bool.and_eq_true, decide_eq_true_eq] at cv
    rw [G.g.hN]
    exact cv.1
  refine ps_of (ps_setLc (G.g.calm c1) G.g.nd hi' hy (sw_true hk hy c4 c5) hi ok hg ht he (fold_it it X.env)) fun D σ H ⟨F, m, h, env, sep, en, q⟩ => ?_
  unfold evS at q
  refine lc_red C W hv (eS (hx := none) sep en q fun w1 h1 v1 F1 m1 H1 t1 s1 e1 r1 p1 => ?_)
  exact p1 _ F1 m1 H1 Stp.refl s1 (e1.set r1)
theorem z_lc2 {mf : Bool} {elt : E} {tg tg' : Tg} {it it' : It} {cs cs' : Oe} {own : List (Str × Nat)} {vs' : List Nat} {sc : Scope} {i : Nat} {y : Str} {py pl p : Pos} (ck : fnK k.sc = true) (ca : k.calm = true) (c : swpB k y py sc pl = true) (cv : locB k i y = true) (ok : BlkOk X.N X.env.scope sc own) (hvs : ∀ i ∈ vs', i ∈ own.map (·.2)) (hv : ∀ i ∈ tvs tg, i ∈ own.map (·.2)) (hv' : ∀ i ∈ tvs tg', i ∈ vs') (hi : PI X tg.syn it.syn (rI X C W hx it))
    (hg : ∀ (s : Shared) (H : Hp) (A : Addr) (cl : List (Str × Addr)) (fp : List Addr), PG (X.blk s H sc (compEnvC sc cl A X.env) fp) tg.syn (rG X C none tg))
    (ht : ∀ (s : Shared) (H : Hp) (A : Addr) (cl : List (Str × Addr)) (fp : List Addr), PTs (X.blk s H sc (compEnvC sc cl A X.env) fp) cs.lsyn (rTs X C WF none cs))
    (hi' : ∀ (s : Shared) (H : Hp) (A : Addr) (cl : List (Str × Addr)) (fp : List Addr), PI (X.blk s H sc (compEnvC sc cl A X.env) fp) tg'.syn it'.syn (rI X C WF none it'))
    (hg' : ∀ (s : Shared) (H : Hp) (A : Addr) (cl : List (Str × Addr)) (fp : List Addr), PG (X.blk s H sc (compEnvC sc cl A X.env) fp) tg'.syn (rG X C none tg'))
    (ht' : ∀ (s : Shared) (H : Hp) (A : Addr) (cl : List (Str × Addr)) (fp : List Addr), PTs (X.blk s H sc (compEnvC sc cl A X.env) fp) cs'.lsyn (rTs X C WF none cs'))
    (he : ∀ (s : Shared) (H : Hp) (A : Addr) (cl : List (Str × Addr)) (fp : List Addr), PE (X.blk s H sc (compEnvC sc cl A X.env) fp) elt.syn (rE X C WF none elt)) : PS X (S.asg (.var i y py) (.lc2 mf elt tg it cs tg' it' cs' own vs' sc pl) p).syn (rS X C W hx (.asg (.var i y py) (.lc2 mf elt tg it cs tg' it' cs' own vs' sc pl) p)) := by
  unfold swpB at c
  simp only [Bool.and_eq_true, decide_eq_true_eq, Bool.not_eq_true'] at c
  obtain ⟨c3, c4, c5⟩ := c
  have c1 := ca
  have c2 := ck
  have h0 := G.g.hc0 c1
  subst h0
  have hk : X.env.scope.kind = .function := by
    rw [G.g.sc]
    unfold fnK at c2
    cases z : k.sc.kind <;> rw [z] at c2 <;> first | rfl | cases c2
  have hy : X.env.scope.names.lookup y = some .local := by rw [G.g.sc]; exact c3
  have hin : X.N[i]? = some y := by
    unfold locB at cv
    simp only [Bool.and_eq_true, decide_eq_true_eq] at cv
    rw [G.g.hN]
    exact cv.1
  refine ps_of (ps_setLc2 (G.g.calm c1) G.g.nd hin hy (sw_true hk hy c4 c5) hi ok hvs hg ht hi' hg' ht' he (fold_it it X.env) (fold_it it')) fun D σ H ⟨F, m, h, env, sep, en, q⟩ => ?_
  unfold evS at q
  refine lc2_red C W hv hv' (eS (hx := none) sep en q fun w1 h1 v1 F1 m1 H1 t1 s1 e1 r1 p1 => ?_)
  exact p1 _ F1 m1 H1 Stp.refl s1 (e1.set r1)
end
end Rf
/-! Statements: loops, raises. -/
namespace Rf
open PySem PySem.Spec PyProof.Rows L2
section
variable (f : Itm → Env → Hs → Out)
def forA (s : Src) (i : Nat) (e : Env) (h : Hs) : Out := match s with
  | .ws xs => forL f (xs.drop i) e h
  | .rf n k => forR f n (k - i) i e h
def after (o : Out) (k : Env → Hs → Out) : Out := match o with
  | .nx e h => k e h
  | .ct e h => k e h
  | .bk e h => .nx e h
  | o => o
theorem forA_zero (s : Src) (e : Env) (h : Hs) : forA f s 0 e h = forS f s e h := by
  cases s <;> rfl
theorem forA_eq (s : Src) (i : Nat) (e : Env) (h : Hs) : forA f s i e h = .no ∨ (nxS s i h = some none ∧ forA f s i e h = .nx e h) ∨ (i < s.len ∧ ∃ x, nxS s i h = some (some x) ∧ forA f s i e h = after (f x e h) fun e1 h1 => forA f s (i + 1) e1 h1) := by
  cases s with
  | ws xs =>
    by_cases hi : i < xs.length
    · refine .inr (.inr ⟨hi, xs[i], by unfold nxS; simp [hi], ?_⟩)
      show forL f (xs.drop i) e h = _
      rw [List.drop_eq_getElem_cons hi]
      unfold forL
      cases f xs[i] e h <;> rfl
    · refine .inr (.inl ⟨by unfold nxS; simp [Nat.le_of_not_lt hi], ?_⟩)
      show forL f (xs.drop i) e h = _
      rw [List.drop_eq_nil_of_le (Nat.le_of_not_lt hi)]
      rfl
  | rf n k =>
    have en : ∀ {o : Option W}, nxt n i h = some o → nxS (.rf n k) i h = some (o.map Itm.one) := fun {o} q => by
      show (nxt n i h).map (fun o => o.map Itm.one) = _
      rw [q]
      rfl
    cases hk : k - i with
    | zero =>
      have e0 : forA f (.rf n k) i e h = forR f n 0 i e h := by show forR f n (k - i) i e h = _; rw [hk]
      rw [e0]
      unfold forR
      cases q : nxt n i h with
      | none => exact .inl rfl
      | some o =>
        cases o with
        | none => exact .inr (.inl ⟨en q, rfl⟩)
        | some w => exact .inl rfl
    | succ j =>
      have e0 : forA f (.rf n k) i e h = forR f n (j + 1) i e h := by show forR f n (k - i) i e h = _; rw [hk]
      rw [e0]
      unfold forR
      cases q : nxt n i h with
      | none => exact .inl rfl
      | some o =>
        cases o with
        | none => exact .inr (.inl ⟨en q, rfl⟩)
        | some w =>
          refine .inr (.inr ⟨by show i < k; omega, .one w, en q, ?_⟩)
          have hj : k - (i + 1) = j := by omega
          have e1 : ∀ e1 h1, forA f (.rf n k) (i + 1) e1 h1 = forR f n j (i + 1) e1 h1 := fun e1 h1 => by show forR f n (k - (i + 1)) (i + 1) e1 h1 = _; rw [hj]
          have e2 : ∀ o : Out, (match o with | .nx e1 h1 => forR f n j (i + 1) e1 h1 | .ct e1 h1 => forR f n j (i + 1) e1 h1 | .bk e1 h1 => .nx e1 h1 | o => o) = after o fun e1 h1 => forA f (.rf n k) (i + 1) e1 h1 := fun o => by cases o <;> simp only [after, e1]
          exact e2 _
end
section
variable {X : Cx} (C : Ct) (W : WX) (hx : HX) {T : Tab} {k : Kx} (G : Gs T C k hx X W)
/-- a turn of a loop -/
def turnS (C : Ct) (t : Tg) (b : S) (x : Itm) (e : Env) (h : Hs) : Out := (asI C t x e h).nx.out e fun e3 h3 => evS C b e3 h3
include G
theorem z_for {t : Tg} {it : It} {b : S} {p : Pos} (c1 : k.calm = true) (c2 : k.top = true) (hi : PI X t.syn it.syn (rI X C W hx it)) (ht : PG X t.syn (rG X C hx t)) (hb : PSs X b.blk (rS X C W hx b)) : PS X (S.for_ t it b p).syn (rS X C W hx (.for_ t it b p)) := by
  refine ps_of (ps_for (G.own c2 c1) (G.g.calm c1) hi ht hb (fold_it it X.env)) fun D σ H ⟨F, m, h, env, sep, en, q⟩ => ?_
  have q' : PostO X W hx D F m H ((evI C it env h).out env fun s h1 => forS (turnS C t b) s env h1) := by
    unfold evS at q
    exact q
  refine ⟨F, m, h, env, sep, en, ?_⟩
  cases er : evI C it env h with
  | no => rw [er] at q'; exact q'.elim
  | ex x h1 =>
    rw [er] at q'
    exact fun dx F' m' H' t s r => q' dx σ F' m' H' t s (en.stp t) r
  | ok src h1 =>
    rw [er] at q'
    intro J F1 m1 H1 t1 s1 wk
    have q1 : PostO X W hx D F1 m1 H1 (forA (turnS C t b) src 0 env h1) := by
      rw [forA_zero]
      exact PostO.step t1 q'
    refine ⟨fun i μ σ H => ∃ F' m' h' env', (∀ a o, F1 a = some o → F' a = some o) ∧ (∀ (n : Nat) a, m1[n]? = some a → m'[n]? = some a) ∧ Sep X.prog X.w X.K m' F' h' H ∧ Envs X.prog X.w X.K hx m' F' σ env' ∧ PostO X W hx D F' m' H (forA (turnS C t b) src i env' h') ∧ μ = src.len - i,
      ⟨src.len, F1, m1, h1, env, fun _ _ e => e, fun _ _ e => e, s1, en.stp t1, q1, rfl⟩, ?_⟩
    rintro i μ σ H ⟨F', m', h', env', xF, xm, sep, en, q, rfl⟩
    have wki := wk F' m' h' H xF xm sep i
    rcases forA_eq (turnS C t b) src i env' h' with e | ⟨e, e2⟩ | ⟨hlt, x, e, e2⟩
    · rw [e] at q
      exact q.elim
    · rw [e] at wki
      rw [e2] at q
      exact .inl ⟨wki, q σ F' m' H Stp.refl sep en⟩
    · rw [e] at wki
      rw [e2] at q
      obtain ⟨go, yl⟩ := wki
      refine .inr ⟨go, fun σ' H' => ∃ F2 m2 h2 env2, (∀ a o, F1 a = some o → F2 a = some o) ∧ (∀ (n : Nat) a, m1[n]? = some a → m2[n]? = some a) ∧ Sep X.prog X.w X.K m2 F2 h2 H' ∧ Envs X.prog X.w X.K hx m2 F2 σ' env2 ∧ PostO X W hx D F2 m2 H' (forA (turnS C t b) src (i + 1) env2 h2),
        fun σ' H' ⟨F2, m2, h2, env2, y1, y2, y3, y4, y5⟩ => ⟨src.len - (i + 1), by omega, F2, m2, h2, env2, y1, y2, y3, y4, y5, rfl⟩, fun v H' y => ?_⟩
      obtain ⟨ta, sa, ri⟩ := yl v H' y
      refine ⟨F', m', h', env', x, sa, en, ri, ?_⟩
      have q2 : PostO X W hx D F' m' H' (after (turnS C t b x env' h') fun e1 h1 => forA (turnS C t b) src (i + 1) e1 h1) := PostO.step ta q
      unfold turnS at q2
      cases ea : (asI C t x env' h').nx with
      | no => rw [ea] at q2; exact q2.elim
      | ex z h2 => exact absurd ea nx_noex
      | ok e3 h3 =>
        rw [ea] at q2
        intro σ2 F2 m2 H2 t2 s2 g2
        refine ⟨F2, m2, h3, e3, s2, g2.1, ?_⟩
        have q3 : PostO X W hx D F2 m2 H2 (after (evS C b e3 h3) fun e1 h1 => forA (turnS C t b) src (i + 1) e1 h1) := PostO.step t2 q2
        have xF2 : ∀ a o, F1 a = some o → F2 a = some o := fun a o e => t2.ext _ _ (xF a o e)
        have xm2 : ∀ (n : Nat) a, m1[n]? = some a → m2[n]? = some a := fun n a e => t2.pre _ _ (xm n a e)
        have nxt : ∀ {e4 : Env} {h4 : Hs}, PostO X W hx D F2 m2 H2 (forA (turnS C t b) src (i + 1) e4 h4) → ∀ σ' F3 m3 H3, Stp F2 m2 H2 F3 m3 H3 → Sep X.prog X.w X.K m3 F3 h4 H3 → Envs X.prog X.w X.K hx m3 F3 σ' e4 →
            ∃ F2 m2 h2 env2, (∀ a o, F1 a = some o → F2 a = some o) ∧ (∀ (n : Nat) a, m1[n]? = some a → m2[n]? = some a) ∧ Sep X.prog X.w X.K m2 F2 h2 H3 ∧ Envs X.prog X.w X.K hx m2 F2 σ' env2 ∧ PostO X W hx D F2 m2 H3 (forA (turnS C t b) src (i + 1) env2 h2) :=
          fun {e4 h4} z σ' F3 m3 H3 t3 s3 e3' => ⟨F3, m3, h4, e4, fun a o e => t3.ext _ _ (xF2 a o e), fun n a e => t3.pre _ _ (xm2 n a e), s3, e3', PostO.step t3 z⟩
        cases eb : evS C b e3 h3 with
        | nx e4 h4 => rw [eb] at q3; exact nxt q3
        | ct e4 h4 => rw [eb] at q3; exact nxt q3
        | bk e4 h4 => rw [eb] at q3; exact q3
        | rt u h4 => rw [eb] at q3; exact q3
        | ex z e4 h4 => rw [eb] at q3; exact q3
        | no => rw [eb] at q3; exact q3
theorem z_whl {c : E} {b : S} {p : Pos} (c1 : k.calm = true) (c2 : k.top = true) (hc : PT X c.syn (rT X C W hx c)) (hb : PSs X b.blk (rS X C W hx b)) : PS X (S.whl c b p).syn (rS X C W hx (.whl c b p)) := by
  refine ps_of (ps_while (G.own c2 c1) hc hb) fun D σ H ⟨F, m, h, env, sep, en, q⟩ => ?_
  unfold evS at q
  refine ⟨fun μ σ H => ∃ F m h env, Sep X.prog X.w X.K m F h H ∧ Envs X.prog X.w X.K hx m F σ env ∧ PostO X W hx D F m H (whlL (fun e1 h1 => tst (evE C c e1 h1)) (fun e1 h1 => evS C b e1 h1) μ env h), ⟨C.wf, F, m, h, env, sep, en, q⟩, ?_⟩
  rintro μ σ H ⟨F, m, h, env, sep, en, q⟩
  cases μ with
  | zero => exact q.elim
  | succ μ =>
    unfold whlL at q
    refine eST sep en q fun t h1 F1 m1 H1 t1 s1 e1 p1 => ?_
    cases t with
    | false => exact p1 σ F1 m1 H1 Stp.refl s1 e1
    | true =>
      simp only [if_true] at p1 ⊢
      refine ⟨fun σ' H' => ∃ F m h env, Sep X.prog X.w X.K m F h H' ∧ Envs X.prog X.w X.K hx m F σ' env ∧ PostO X W hx D F m H' (whlL (fun e1 h1 => tst (evE C c e1 h1)) (fun e1 h1 => evS C b e1 h1) μ env h), fun σ' H' z => ⟨μ, Nat.lt_succ_self _, z⟩, F1, m1, h1, env, s1, e1, ?_⟩
      cases eb : evS C b env h1 with
      | nx e4 h4 => rw [eb] at p1; exact fun σ' F3 m3 H3 t3 s3 e3 => ⟨F3, m3, h4, e4, s3, e3, PostO.step t3 p1⟩
      | ct e4 h4 => rw [eb] at p1; exact fun σ' F3 m3 H3 t3 s3 e3 => ⟨F3, m3, h4, e4, s3, e3, PostO.step t3 p1⟩
      | bk e4 h4 => rw [eb] at p1; exact p1
      | rt u h4 => rw [eb] at p1; exact p1
      | ex z e4 h4 => rw [eb] at p1; exact p1
      | no => rw [eb] at p1; exact p1
theorem z_rai {x mm : Str} {j : Nat} {p0 p1 p2 p : Pos} (c1 : k.calm = true) (c2 : glB k x = true) (c3 : x ∈ T.exs) : PS X (S.rai x mm j p0 p1 p2 p).syn (rS X C W hx (.rai x mm j p0 p1 p2 p)) := by
  obtain ⟨g1, g2, g3⟩ := gl_of C W hx G.g c2
  obtain ⟨e1, e2, e3, e4⟩ := G.exs x c3
  refine ps_of (ps_raise (G.g.calm c1) G.g.tk (pmk_own PySem.F.excBase_ValueError e2 e1 e3 e4 g1 g2)) fun D σ H ⟨F, m, h, env, sep, en, q⟩ => ?_
  unfold evS at q
  exact q none σ F m H Stp.refl sep en rfl
theorem z_raf {x f : Str} {y : E} {p0 p1 p : Pos} (c1 : k.calm = true) (c2 : glB k x = true) (c3 : (x, f) ∈ T.exf) (hy : PE X y.syn (rE X C W hx y)) : PS X (S.raf x f y p0 p1 p).syn (rS X C W hx (.raf x f y p0 p1 p)) := by
  obtain ⟨g1, g2, g3⟩ := gl_of C W hx G.g c2
  obtain ⟨ok, gl, ox, fI, n, fd, ps, r1, r2, r3, r4, r5⟩ := G.exf c1 x f c3
  refine ps_of (ps_raise (G.g.calm c1) G.g.tk (pmk_oex (dvs := []) (ds := []) ox r1 r2 r5 r3 r4 .nil passL g1 gl (pa_cons hy pa_nil (star_syn y [] X.env)) g2 (star_syn y [] X.env) (by rfl))) fun D σ H ⟨F, m, h, env, sep, en, q⟩ => ?_
  unfold evS at q
  refine eS sep en q fun w1 h1 v1 F1 m1 H1 t1 s1 e1 rr p1 => ?_
  split at p1
  · rename_i d
    cases rr with
    | d rr =>
      refine ⟨by show 1 ≤ 1000; decide, fun a na => ⟨a, v1, rfl, upd_same, fun dx hdx hne => ⟨rfl, dx, [(f, v1)], upd_same, ?_, ?_, ?_⟩⟩⟩
      · rw [upd_ne hne, upd_same]
      · rw [upd_ne hne] at hdx
        exact hdx
      · have hd1 : H1 dx = none := by
          rw [upd_ne hne] at hdx
          exact hdx
        have e : upd (del (upd (upd (upd H1 a (exo a (He.ga X.K x) none)) dx (exd dx [(f, v1)])) a (exo a (He.ga X.K x) (some dx))) a) dx (.xd [(f, v1)]) = upd H1 dx (.xd [(f, v1)]) := by
          funext b
          by_cases hb : b = dx
          · subst hb
            rw [upd_same, upd_same]
          · rw [upd_ne hb, upd_ne hb]
            by_cases hba : b = a
            · subst hba
              rw [del_same, na]
            · rw [del_ne hba, upd_ne hba, upd_ne hb, upd_ne hba]
        rw [e]
        obtain ⟨t2, s2⟩ := s1.layH (o := .xd [(f, v1)]) hd1
        exact p1 (some dx) σ F1 m1 _ t2 s2 (e1.stp t2) ⟨⟨dx, v1, rfl, upd_same, rr⟩, ok⟩
  · exact p1.elim
end
end Rf
/-! Statements: try with several clauses, some of them with a name. -/
namespace Rf
open PySem PySem.Spec PyProof.Rows L2
abbrev Cls1 := Value × Option (Nat × Str) × (Addr → Value → Option Addr → TS)
def goneD (i : Nat) (D : Ends) : Ends := { nx := fun σ' H' => D.nx (σ'.set i none) H', rt := D.rt, bk := fun σ' H' => D.bk (σ'.set i none) H', ct := fun σ' H' => D.ct (σ'.set i none) H' }
def wMix (K : PySem.W.Frag) (Wo : WX) (D : Ends) : List Cls1 → WX
  | [] => Wo
  | q :: r => fun cl dx σ H => ∃ t, PySem.W.exmOne K cl q.1 = some t ∧ (t = true → ∀ a, H a = none → (match q.2.1 with
      | none => q.2.2 a cl dx D σ H
      | some z => q.2.2 a cl dx (goneD z.1 D) (σ.set z.1 (some (.ref a))) H)) ∧ (t = false → wMix K Wo D r cl dx σ H)
def nmOk (X : Cx) : Option (Nat × Str) → Prop
  | none => True
  | some z => X.N[z.1]? = some z.2 ∧ X.env.kindOf z.2 = some .local
inductive MixOk (X : Cx) : List ExceptHandler → List Cls1 → Prop
  | nil : MixOk X [] []
  | cons {x : Str} {c : Value} {nm : Option (Nat × Str)} {ts : Addr → Value → Option Addr → TS} {b0 : Stmt} {bs : List Stmt} {p1 p2 : Pos} {hds : List ExceptHandler} {l : List Cls1} (cn : Names X x c) (ok : nmOk X nm)
      (su : ∀ (a : Addr) (oe : Obj) (cl : Value) (dx : Option Addr) (pn : List (Addr × Obj)), Zc cl dx oe → (∃ vs, oe.data = .fields vs) → PSs (X.suite a ((a, oe) :: pn)) (b0 :: bs) (ts a cl dx)) (r : MixOk X hds l) :
      MixOk X (.ExceptHandler (some (.Name x p1)) (nm.map (·.2)) (b0 :: bs) p2 :: hds) ((c, nm, ts) :: l)
section
variable {X : Cx} {bd : List Stmt} {hd0 : ExceptHandler} {hds0 : List ExceptHandler} {ls : List Cls1} {pp : Pos} {tb : WX → TS} {Wo : WX}
theorem try_mix (e1 : X.stack = X.env :: X.outer) (e2 : X.env.frame = some X.env.locals) (hN : X.N.Nodup) (tk : Takes X Wo)
    (go1 : ∀ (W1 : WX) (pn1 : List (Addr × Obj)) (xe1 : Value → Shared → Prop), Takes (X.tr pn1 xe1) W1 → PassesOwn (model X.prog X.w) X.A X.env xe1 → PSs (X.tr pn1 xe1) bd (tb W1))
    (hm : MixOk X (hd0 :: hds0) ls) : PS X (.Try bd (hd0 :: hds0) [] [] pp) (fun D σ H => tb (wMix X.K Wo D ls) D σ H) := by
  refine ⟨fun pins s0 σ0 H0 D I0 h0 => ?_⟩
  have okX := I0.ok
  have fr0 : X.A.frames = some (X.env :: X.outer) := by rw [okX.frames, e1]
  apply wpAny_Try_except
  refine wpAny_mono ((go1 (wMix X.K Wo D ls) (X.pn ++ pins) (fun v1 z1 => wpAny (model X.prog X.w) X.A (noteFrame v1 X.env) (fun _ z2 => wpAny (model X.prog X.w) X.A (setFlight v1 none) (fun _ z3 =>
    wpAny (model X.prog X.w) X.A (handleBy v1 X.env (hd0 :: hds0)) (SP X pins D) X.xe z3) X.xe z2) X.xe z1) (fun v1 z1 caught => ?_) PassesOwn.looking).run [] s0 σ0 H0 D (I0.toTry _) h0) (fun fl z1 spz => ?_) (fun v1 z1 hz1 => hz1)
  · obtain ⟨a, B, s1, pins1, σ1, H1, cl, dx, rfl, J0, nb1, up1, sk0, na1, os1, ag1, wish⟩ := caught
    have J1 : Inv X pins σ1 H1 s1 := J0.ofTry okX
    have sk1 : Sky B (X.env :: X.outer) a (Zc cl dx) X.env.locals z1.heap := by rw [← e1]; exact sk0
    show wpAny (model X.prog X.w) X.A (noteFrame (.ref a) X.env) _ _ _
    refine Sky.land Zc.steady fr0 e2 sk1 fun hp3 ld3 up3 => ?_
    have J2 : Inv X pins σ1 H1 { z1 with heap := hp3 } := J1.landed nb1 ld3.1 (up1.trans up3) os1 ag1
    obtain ⟨ob3, fs3, hb3, hzc3, hdt3⟩ := ld3.there
    have notin : ∀ {hp : Heap} {ob : Obj} {fs : Array Value}, hp.FunFrames B (X.env :: X.outer) → hp.get? a = some ob → ob.data = .fields fs → a ∉ frs (X.env :: X.outer) := by
      intro hp ob fs ff hb hdt hmm
      obtain ⟨_, ob', hb', hnf⟩ := ff.mem hmm
      rw [hb] at hb'
      cases hb'
      exact hnf _ hdt
    have nfr3 := notin ld3.2.2.1 hb3 hdt3
    have neL : a ≠ X.env.locals := fun z => nfr3 (List.mem_filterMap.mpr ⟨X.env, List.mem_cons_self, by rw [e2, z]⟩)
    have neF : a ∉ X.fs := fun hmm => by
      obtain ⟨en, hen, q⟩ := List.mem_filterMap.mp hmm
      exact nfr3 (List.mem_filterMap.mpr ⟨en, List.mem_cons_of_mem _ hen, q⟩)
    have SU := J2.suite hb3 hdt3 na1 neL neF
    have turn : ∀ {hds' : List ExceptHandler} {l' : List Cls1}, MixOk X hds' l' → wMix X.K Wo D l' cl dx σ1 H1 →
        wpAny (model X.prog X.w) X.A (handleBy (.ref a) X.env hds') (SP X pins D) X.xe { z1 with heap := hp3 } := by
      intro hds' l' mk
      induction mk with
      | nil =>
        intro wish
        refine wpAny_handleBy_nil ?_
        obtain ⟨q1, q2, q3, ob, fs, T, oT, ts', hb, hzc, hdt, hfs, hr⟩ := id ld3
        unfold PySem.passOn
        refine wpAny_bind (wpAny_field hb hdt hfs ?_)
        rw [if_neg (by simp : ¬ ((Value.ref T == Value.none) = true))]
        have last : wpAny (model X.prog X.w) X.A (setFlight (.ref a) X.env.frame) (fun _ z4 => wpAny (model X.prog X.w) X.A (throw (.ref a) : Sem Flow) (SP X pins D) X.xe z4) X.xe { z1 with heap := hp3 } := by
          rw [e2]
          refine HandSPX.setFlight_upZ ld3 fun hp4 sk4 up4 => wpAny_throw (tk _ _ ?_)
          exact ⟨a, B, s1, pins, σ1, H1, cl, dx, rfl, J1, nb1, (up1.trans up3).trans up4, .inr (.inr (by rw [e1]; exact sk4)), na1, os1, ag1, wish⟩
        first
          | exact wpAny_bind (wpAny_pure (wpAny_bind last))
          | exact wpAny_bind last
      | @cons x c nm ts b0 bs p1 p2 hds2 l2 cn ok su r ih =>
        intro wish
        obtain ⟨t, et, yes, no⟩ := wish
        refine wpAny_handleBy_cons (codeAny_handlers_test ?_) (by intro q; cases q)
        have lk : PySem.W.Looks (model X.prog X.w) hp3 (typeOf (.ref a)) cl := fun A Q E z k q => wpAny_typeOf_ref (k _ _ hb3) (by rw [hzc3.1]; exact q)
        have mt := PySem.W.exm_one (M := model X.prog X.w) (J2.kIn) lk et
        have name : ∀ {Q : Value → Shared → Prop} {E : Value → Shared → Prop}, Q c { z1 with heap := hp3 } → wpAny (model X.prog X.w) (X.A.mark (some (.ref a))) (eval (.Name x p1) X.env) Q E { z1 with heap := hp3 } := by
          intro Q E q
          obtain ⟨c1, c2, c3 | ⟨c3, c4, c5⟩⟩ := cn
          · exact ld_glob (X := X.suite a ((a, ob3) :: (X.pn ++ pins))) SU c1 c3 q c2
          · exact ld_blt (X := X.suite a ((a, ob3) :: (X.pn ++ pins))) SU c1 c3 c4 q c5 c2
        refine name (mt.here ?_)
        cases t with
        | true =>
          cases nm with
          | none =>
            refine codeAny_handlers_suite ?_
            refine HandSPX.lands_againZ ld3 fun hp4 ld4 up4 => ?_
            have J4 : Inv X pins σ1 H1 { z1 with heap := hp4 } := J1.landed nb1 ld4.1 ((up1.trans up3).trans up4) os1 ag1
            obtain ⟨ob4, fs4, hb4, hzc4, hdt4⟩ := ld4.there
            have SU4 := J4.suite hb4 hdt4 na1 neL neF
            refine wpAny_mono ((su a ob4 cl dx (X.pn ++ pins) hzc4 ⟨_, hdt4⟩).run [] _ _ H1 _ SU4 (yes rfl a na1)) (fun fl z6 spz => ?_) (fun _ _ z => False.elim z)
            cases fl with
            | next =>
              obtain ⟨σ6, H6, U6, q6⟩ := spz
              exact ⟨_, _, U6.unsuite okX, q6⟩
            | brk =>
              obtain ⟨σ6, H6, U6, q6⟩ := spz
              exact ⟨_, _, U6.unsuite okX, q6⟩
            | cont =>
              obtain ⟨σ6, H6, U6, q6⟩ := spz
              exact ⟨_, _, U6.unsuite okX, q6⟩
            | ret u =>
              obtain ⟨v6, σ6, H6, U6, r6, q6⟩ := spz
              exact ⟨_, _, _, U6.unsuite okX, r6, q6⟩
          | some nz =>
            obtain ⟨i, n⟩ := nz
            obtain ⟨hi, hln⟩ := ok
            have hloc : Loc X.env.scope n := .inl hln
            refine codeAny_handlers_suite_as ?_
            refine HandSPX.lands_againZ ld3 fun hp4 ld4 up4 => ?_
            have J4 : Inv X pins σ1 H1 { z1 with heap := hp4 } := J1.landed nb1 ld4.1 ((up1.trans up3).trans up4) os1 ag1
            obtain ⟨ob4, fs4, hb4, hzc4, hdt4⟩ := ld4.there
            have SU4 := J4.suite hb4 hdt4 na1 neL neF
            refine store_ok (X := X.suite a ((a, ob4) :: (X.pn ++ pins))) (v := .ref a) SU4 hN hi hloc rfl (fun z5 SU5 => ?_) (.inr hln)
            refine wpAny_mono ((su a ob4 cl dx (X.pn ++ pins) hzc4 ⟨_, hdt4⟩).run [] z5 _ H1 _ SU5 (yes rfl a na1)) (fun fl z6 spz => ?_) (fun _ _ z => False.elim z)
            have off : ∀ {σ6 : L2.St} {H6 : Hp} {Q : Shared → Prop}, Inv (X.suite a ((a, ob4) :: (X.pn ++ pins))) [] σ6 H6 z6 → (∀ z7, Inv X pins (σ6.set i none) H6 z7 → Q z7) →
                wpAny (model X.prog X.w) X.A (do bindName X.env n .none; unbindBehindTheSuite X.env n p2) (fun _ z7 => Q z7) X.xe z6 := fun {σ6 H6 Q} U6 hq => gone_ok (U6.unsuite okX) hN hi hln hq
            cases fl with
            | next =>
              obtain ⟨σ6, H6, U6, q6⟩ := spz
              exact off U6 fun z7 J7 => ⟨_, _, J7, q6⟩
            | brk =>
              obtain ⟨σ6, H6, U6, q6⟩ := spz
              exact off U6 fun z7 J7 => ⟨_, _, J7, q6⟩
            | cont =>
              obtain ⟨σ6, H6, U6, q6⟩ := spz
              exact off U6 fun z7 J7 => ⟨_, _, J7, q6⟩
            | ret u =>
              obtain ⟨v6, σ6, H6, U6, r6, q6⟩ := spz
              exact off U6 fun z7 J7 => ⟨_, _, _, J7, r6, q6⟩
        | false =>
          show wpAny _ X.A (handleBy (.ref a) X.env hds2) _ _ _
          exact ih (no rfl)
    exact turn hm wish
  · cases fl with
    | next =>
      obtain ⟨σ6, H6, U6, q6⟩ := spz
      exact wpAny_execs_nil ⟨σ6, H6, U6.ofTry okX, q6⟩
    | brk =>
      obtain ⟨σ6, H6, U6, q6⟩ := spz
      exact ⟨σ6, H6, U6.ofTry okX, q6⟩
    | cont =>
      obtain ⟨σ6, H6, U6, q6⟩ := spz
      exact ⟨σ6, H6, U6.ofTry okX, q6⟩
    | ret u =>
      obtain ⟨v6, σ6, H6, U6, r6, q6⟩ := spz
      exact ⟨v6, σ6, H6, U6.ofTry okX, r6, q6⟩
end
end Rf
/-! Statements: try; every statement is sound. -/
namespace Rf
open PySem PySem.Spec PyProof.Rows L2
section
variable {P : Program} {w : World} {K : PySem.W.Frag} {hx : HX} {m : List Addr} {F H : Hp} {σ : L2.St} {env : Env} {h : Hs}
theorem Envs.hide (e : Envs P w K hx m F σ env) (i : Nat) (v : Option V) : Envs P w K hx m F (σ.set i v) (env.set i none) := by
  refine ⟨by rw [List.length_set, List.length_set]; exact e.len, fun j u q => ?_⟩
  by_cases hj : j = i
  · subst hj
    by_cases hl : j < env.length
    · rw [List.getElem?_set_self hl] at q
      cases q
    · rw [List.getElem?_eq_none (by simpa using hl)] at q
      cases q
  · rw [List.getElem?_set_ne (Ne.symm hj)] at q ⊢
    exact e.at_ j u q
theorem Envs.out {i : Nat} (ho : ∀ q, hx = some q → q.1 = i) (e : Envs P w K hx m F σ env) : Envs P w K none m F (σ.set i none) (env.set i none) := by
  refine ⟨by rw [List.length_set, List.length_set]; exact e.len, fun j u q => ?_⟩
  by_cases hj : j = i
  · subst hj
    by_cases hl : j < env.length
    · rw [List.getElem?_set_self hl] at q
      cases q
    · rw [List.getElem?_eq_none (by simpa using hl)] at q
      cases q
  · rw [List.getElem?_set_ne (Ne.symm hj)] at q ⊢
    have z := e.at_ j u q
    cases u with
    | d d => exact z
    | r n => exact z
    | x f y =>
      obtain ⟨a, Ca, dd, z, h1, _⟩ := z
      exact absurd (ho _ h1) hj
/-- a caught exception's field is there to be read -/
theorem catch_in {a Ca dd : Addr} {f : Str} {y : D} {v : V} {i : Nat} (s : Sep P w K m F h H) (e : Envs P w K none m F σ env) (hd : H dd = some (.xd [(f, v)])) (r : RD P w K F v y) (ok : XfOk K Ca f) :
    Stp F m H (upd F dd (.xd [(f, v)])) m H ∧ Sep P w K m (upd F dd (.xd [(f, v)])) h H ∧ Envs P w K (some (i, a, Ca, dd)) m (upd F dd (.xd [(f, v)])) (σ.set i (some (.ref a))) (env.set i (some (.x f y))) := by
  have ext : ∀ b o, F b = some o → upd F dd (.xd [(f, v)]) b = some o := fun b o eb => by
    by_cases hb : b = dd
    · subst hb
      have z := s.sub b o eb
      rw [hd] at z
      cases z
      exact upd_same
    · rw [upd_ne hb]
      exact eb
  have nm : ∀ (n : Nat) (o : Ob) b, OB P w K m F H b o → b ≠ dd := fun n o b ob => by
    rintro rfl
    cases o with
    | lst ws =>
      obtain ⟨_, vs, e1, _⟩ := ob
      rw [hd] at e1
      cases e1
    | dct l kvs =>
      obtain ⟨_, _, xs, ep, e1, _⟩ := ob
      rw [hd] at e1
      cases e1
    | ins c fs =>
      obtain ⟨_, dx, vs, e1, _⟩ := ob
      rw [hd] at e1
      cases e1
  refine ⟨⟨ext, fun _ _ e => e, fun _ _ e _ => e, fun b o eb => ?_, fun _ z => .inl z, fun _ o e => ⟨o, e⟩⟩, ⟨s.len, s.nd, fun b o eb => ?_, fun n o b e1 e2 => ?_⟩, ⟨by rw [List.length_set, List.length_set]; exact e.len, fun j u q => ?_⟩⟩
  · by_cases hb : b = dd
    · subst hb
      rw [upd_same] at eb
      cases eb
      exact .inr (.inr (.inr ⟨_, rfl⟩))
    · rw [upd_ne hb] at eb
      exact .inl eb
  · by_cases hb : b = dd
    · subst hb
      rw [upd_same] at eb
      cases eb
      exact hd
    · rw [upd_ne hb] at eb
      exact s.sub b o eb
  · have ob := s.ob n o b e1 e2
    exact ob.mono ext (fun _ _ e => e) rfl fun z => by rw [upd_ne (nm n o b ob)]; exact z
  · by_cases hj : j = i
    · subst hj
      by_cases hl : j < env.length
      · rw [List.getElem?_set_self hl] at q
        cases q
        rw [List.getElem?_set_self (by rw [e.len]; exact hl)]
        exact ⟨a, Ca, dd, v, rfl, rfl, upd_same, r.mono ext, ok⟩
      · rw [List.getElem?_eq_none (by simpa using hl)] at q
        cases q
    · rw [List.getElem?_set_ne (Ne.symm hj)] at q ⊢
      have z := e.at_ j u q
      cases u with
      | d d =>
        obtain ⟨z, h1, h2⟩ := z
        exact ⟨z, h1, h2.mono ext fun _ _ e => e⟩
      | r n =>
        obtain ⟨z, h1, h2⟩ := z
        exact ⟨z, h1, h2.mono ext fun _ _ e => e⟩
      | x f y =>
        obtain ⟨a, Ca, dd, z, h1, _⟩ := z
        cases h1
end
/-- what is known of the exception in a suite -/
def hxs (nm : Option (Nat × Str)) (a : Addr) (cl : Value) (dx : Option Addr) : HX := match nm, cl, dx with
  | some z, .ref Ca, some dd => some (z.1, a, Ca, dd)
  | _, _, _ => none
theorem hxs_at {z : Nat × Str} {a : Addr} {cl : Value} {dx : Option Addr} : ∀ q, hxs (some z) a cl dx = some q → q.1 = z.1 := by
  intro q e
  unfold hxs at e
  split at e
  · cases e
    simp_all
  · cases e
def lH (X : Cx) (C : Ct) : S → List Cls1
  | .hd c _ nm b _ r => (.ref (He.ga X.K c), nm, fun a cl dx => rS X C WF (hxs nm a cl dx) b) :: lH X C r
  | _ => []
section
variable {X : Cx} {C : Ct} {W : WX} {hx : HX} {T : Tab} {k : Kx}
theorem mix_w (G : Gs T C k hx X W) {D : Ends} {x : Exn} {env : Env} {h : Hs} {dx : Option Addr} : ∀ (hs : S) {F H : Hp} {m : List Addr} {σ : L2.St}, catB T k hs = true → Sep X.prog X.w X.K m F h H → Envs X.prog X.w X.K none m F σ env → ExR X.prog X.w X.K F H x dx →
    PostO X W none D F m H (evH C hs x env h) → wMix X.K W D (lH X C hs) (.ref (He.ga X.K x.cls)) dx σ H
  | .hd c px nm b p r, F, H, m, σ, hc, sep, en, er, q => by
    unfold evH at q
    unfold catB at hc
    simp only [Bool.and_eq_true] at hc
    obtain ⟨hc1, hc2, hc3⟩ := hc
    cases hsb : C.sub x.cls c with
    | none => rw [hsb] at q; exact q.elim
    | some t =>
      rw [hsb] at q
      refine ⟨t, (G.sub _ _ _ hsb).2, fun et a na => ?_, fun et => ?_⟩
      · subst et
        cases nm with
        | none =>
          refine ⟨F, m, h, env, sep, en, ?_⟩
          simp only at q
          show PostO X WF none D F m H _
          cases eb : evS C b env h with
          | nx e4 h4 => rw [eb] at q; exact q
          | bk e4 h4 => rw [eb] at q; exact q
          | ct e4 h4 => rw [eb] at q; exact q
          | rt u h4 => rw [eb] at q; exact q
          | ex z e4 h4 => rw [eb] at q; exact q.elim
          | no => rw [eb] at q; exact q
        | some z =>
          simp only at q
          have fin : ∀ {hx' : HX} {F' : Hp} {m' : List Addr} {H' : Hp} (ho : ∀ q, hx' = some q → q.1 = z.1), Stp F m H F' m' H' → PostO X WF hx' (goneD z.1 D) F' m' H' (evS C b (env.set z.1 x.w) h) := by
            intro hx' F' m' H' ho st
            cases eb : evS C b (env.set z.1 x.w) h with
            | nx e4 h4 =>
              rw [eb] at q
              exact fun σ2 F2 m2 H2 t2 s2 e2 => q _ F2 m2 H2 (st.trans t2) s2 (e2.out ho)
            | bk e4 h4 =>
              rw [eb] at q
              exact fun σ2 F2 m2 H2 t2 s2 e2 => q _ F2 m2 H2 (st.trans t2) s2 (e2.out ho)
            | ct e4 h4 =>
              rw [eb] at q
              exact fun σ2 F2 m2 H2 t2 s2 e2 => q _ F2 m2 H2 (st.trans t2) s2 (e2.out ho)
            | rt u h4 =>
              rw [eb] at q
              exact fun v F2 m2 H2 t2 s2 r2 => q v F2 m2 H2 (st.trans t2) s2 r2
            | ex y e4 h4 => rw [eb] at q; exact q.elim
            | no => rw [eb] at q; exact q
          cases ef : x.fld with
          | none =>
            unfold ExR at er
            rw [ef] at er
            subst er
            have ew : x.w = none := by unfold Exn.w; rw [ef]; rfl
            refine ⟨F, m, h, env.set z.1 x.w, sep, ?_, fin hxs_at Stp.refl⟩
            · rw [ew]
              exact en.hide z.1 _
          | some p =>
            unfold ExR at er
            rw [ef] at er
            obtain ⟨⟨dd, v, rfl, hd, rr⟩, ok⟩ := er
            have ew : x.w = some (.x p.1 p.2) := by unfold Exn.w; rw [ef]; rfl
            obtain ⟨t1, s1, e1⟩ := catch_in (a := a) (i := z.1) sep en hd rr ok
            refine ⟨_, m, h, env.set z.1 x.w, s1, ?_, fin hxs_at t1⟩
            · rw [ew]
              exact e1
      · subst et
        exact mix_w G r hc3 sep en er q
  | .skip, F, H, m, σ, hc, sep, en, er, q => by
    unfold evH at q
    exact q dx σ F m H Stp.refl sep en er
  | .seq _ _, _, _, _, _, hc, _, _, _, _ => by unfold catB at hc; cases hc
  | .asg _ _ _, _, _, _, _, hc, _, _, _, _ => by unfold catB at hc; cases hc
  | .par2 _ _ _ _ _ _ _ _ _ _ _ _ _, _, _, _, _, hc, _, _, _, _ => by unfold catB at hc; cases hc
  | .par3 _ _ _ _ _ _ _ _ _ _ _ _ _ _ _ _ _, _, _, _, _, hc, _, _, _, _ => by unfold catB at hc; cases hc
  | .aug _ _ _ _ _ _, _, _, _, _, hc, _, _, _, _ => by unfold catB at hc; cases hc
  | .exp _ _, _, _, _, _, hc, _, _, _, _ => by unfold catB at hc; cases hc
  | .ret _ _, _, _, _, _, hc, _, _, _, _ => by unfold catB at hc; cases hc
  | .retN _, _, _, _, _, hc, _, _, _, _ => by unfold catB at hc; cases hc
  | .ite _ _ _ _, _, _, _, _, hc, _, _, _, _ => by unfold catB at hc; cases hc
  | .for_ _ _ _ _, _, _, _, _, hc, _, _, _, _ => by unfold catB at hc; cases hc
  | .whl _ _ _, _, _, _, _, hc, _, _, _, _ => by unfold catB at hc; cases hc
  | .brk _, _, _, _, _, hc, _, _, _, _ => by unfold catB at hc; cases hc
  | .cnt _, _, _, _, _, hc, _, _, _, _ => by unfold catB at hc; cases hc
  | .pas _, _, _, _, _, hc, _, _, _, _ => by unfold catB at hc; cases hc
  | .rai _ _ _ _ _ _ _, _, _, _, _, hc, _, _, _, _ => by unfold catB at hc; cases hc
  | .raf _ _ _ _ _ _, _, _, _, _, hc, _, _, _, _ => by unfold catB at hc; cases hc
  | .try_ _ _ _, _, _, _, _, hc, _, _, _, _ => by unfold catB at hc; cases hc
theorem Gs.tr (G : Gs T C k hx X W) (c1 : k.calm = true) {pn : List (Addr × Obj)} {xe : Value → Shared → Prop} {W1 : WX} (tk : Takes (X.tr pn xe) W1) (po : PassesOwn (model X.prog X.w) X.A X.env xe) : Gs T C k hx (X.tr pn xe) W1 where
  g := { hN := G.g.hN, nd := G.g.nd, sc := G.g.sc, fc := G.g.fc, calm := G.g.calm, hu := G.g.hu, tk := tk, fr := G.g.fr, cn := G.g.cn, at_ := G.g.at_
         fn := fun c i fe e1 e2 => let ⟨n, f, fd, h1, h2, h3, h4⟩ := G.g.fn c i fe e1 e2; ⟨n, f, fd, h1, h2, h3, ⟨h4.ok, h4.bd⟩⟩
         me := fun c i fe cc e1 e2 => let ⟨n, f, fd, h1, h2, h3, h4⟩ := G.g.me c i fe cc e1 e2; ⟨n, f, fd, h1, h2, h3, ⟨h4.ok, h4.bd⟩⟩
         nw := fun c i ce fe e1 e2 => let ⟨n, f, fd, g, h1, h2, h3, h4, h5⟩ := G.g.nw c i ce fe e1 e2; ⟨n, f, fd, g, h1, h2, h3, h4, ⟨h5.ok, h5.bd⟩⟩
         sp := fun c i fe cc e1 e2 => let ⟨n, f, fd, h1, h2, h3⟩ := G.g.sp c i fe cc e1 e2; ⟨n, f, fd, h1, h2, ⟨h3.ok, h3.bd⟩⟩
         hc0 := G.g.hc0
         xf := fun i a Ca dd e => by rw [G.g.hc0 c1] at e; cases e }
  stk := G.stk
  own := fun _ _ => po
  exs := G.exs
  exf := fun c x f e => ⟨(G.exf c x f e).ok, (G.exf c x f e).glo, (G.exf c x f e).ox, (G.exf c x f e).run⟩
  sub := G.sub
theorem Gs.suite (G : Gs T C k hx X W) {nm : Option (Nat × Str)} {a : Addr} {ob : Obj} {cl : Value} {dx : Option Addr} {pn : List (Addr × Obj)} (hz : Zc cl dx ob) (hf : ∃ vs, ob.data = .fields vs) : Gs T C (k.suite nm) (hxs nm a cl dx) (X.suite a ((a, ob) :: pn)) WF where
  g := { hN := G.g.hN, nd := G.g.nd, sc := G.g.sc, fc := G.g.fc, calm := fun e => by cases e
         hu := G.g.hu, tk := takes0, fr := G.g.fr, cn := G.g.cn, at_ := G.g.at_
         fn := fun c => by cases c
         me := fun c => by cases c
         nw := fun c => by cases c
         sp := fun c => by cases c
         hc0 := fun c => by cases c
         xf := fun i a' Ca dd e ex te f pos ok he hb => by
           unfold hxs at e
           split at e
           · cases e
             exact pe_xf ok.1 ok.2 hz hf he hb
           · cases e }
  stk := fun t => G.stk t
  own := fun _ c => by cases c
  exs := G.exs
  exf := fun c => by cases c
  sub := G.sub
theorem z_try (G : Gs T C k hx X W) {b hs : S} {p : Pos} (c1 : k.calm = true) (c2 : k.top = true) (c3 : isHd hs = true) (c4 : catB T k hs = true)
    (hb : ∀ (W1 : WX) (pn : List (Addr × Obj)) (xe : Value → Shared → Prop), Takes (X.tr pn xe) W1 → PassesOwn (model X.prog X.w) X.A X.env xe → PSs (X.tr pn xe) b.blk (rS X C W1 hx b))
    (hh : MixOk X hs.hds (lH X C hs)) : PS X (S.try_ b hs p).syn (rS X C W hx (.try_ b hs p)) := by
  have e0 := G.g.hc0 c1
  subst e0
  cases hs with
  | hd c px nm sb hp r =>
    refine ps_of (try_mix (G.stk c2).1 (G.stk c2).2 G.g.nd G.g.tk hb hh) fun D σ H ⟨F, m, h, env, sep, en, q⟩ => ⟨F, m, h, env, sep, en, ?_⟩
    unfold evS at q
    cases eb : evS C b env h with
    | nx e4 h4 => rw [eb] at q; exact q
    | bk e4 h4 => rw [eb] at q; exact q
    | ct e4 h4 => rw [eb] at q; exact q
    | rt u h4 => rw [eb] at q; exact q
    | no => rw [eb] at q; exact q
    | ex x e4 h4 =>
      rw [eb] at q
      exact fun dx σ' F' m' H' t s e er => mix_w G _ c4 s e er (PostO.step t q)
  | _ => cases c3
theorem h_skip : MixOk X S.skip.hds (lH X C S.skip) := .nil
theorem h_hd (G : Gs T C k hx X W) {c : Str} {px : Pos} {nm : Option (Nat × Str)} {b : S} {p : Pos} {r : S} (c0 : isSeq b = true) (c1 : glB k c = true) (ca : k.calm = true) (c2 : c ∈ T.exs ∨ ∃ f, (c, f) ∈ T.exf) (c3 : (match nm with
    | some q => lclB k q.1 q.2
    | none => true) = true) (hb : ∀ (a : Addr) (ob : Obj) (cl : Value) (dx : Option Addr) (pn : List (Addr × Obj)), Zc cl dx ob → (∃ vs, ob.data = .fields vs) → PSs (X.suite a ((a, ob) :: pn)) b.blk (rS X C WF (hxs nm a cl dx) b))
    (hr : MixOk X r.hds (lH X C r)) : MixOk X (S.hd c px nm b p r).hds (lH X C (.hd c px nm b p r)) := by
  cases b with
  | seq b1 b2 =>
    obtain ⟨g1, g2, g3⟩ := gl_of C W hx G.g c1
    have mg : X.mg c = some (.ref (He.ga X.K c)) := by
      rcases c2 with c2 | ⟨f, c2⟩
      · exact (G.exs c c2).1
      · exact (G.exf ca c f c2).glo
    refine .cons ⟨g1, g2, .inl mg⟩ ?_ hb hr
    cases nm with
    | none => trivial
    | some z =>
      have z2 : k.N[z.1]? = some z.2 ∧ k.sc.names.lookup z.2 = some .local := by
        unfold lclB at c3
        simpa using c3
      refine ⟨by rw [G.g.hN]; exact z2.1, ?_⟩
      show X.env.scope.names.lookup z.2 = some .local
      rw [G.g.sc]
      exact z2.2
  | _ => cases c0
end
end Rf
/-! Statements run as they mean. -/
namespace Rf
open PySem PySem.Spec PyProof.Rows L2
section
variable {T : Tab} {C : Ct}
/-- an assignment, by its right side -/
theorem sndAsg (t : Tg) (e : E) (p : Pos) (k : Kx) (hx : HX) (X : Cx) (W : WX) (G : Gs T C k hx X W) (c1 : okT T k t = true) (c2 : okE T k e = true) (c3 : asgB k t e = true) : PS X (S.asg t e p).syn (rS X C W hx (.asg t e p)) := by
  by_cases hn : ∃ i y py, t = .var i y py
  · obtain ⟨i, y, py, rfl⟩ := hn
    cases e with
    | lc mf elt tg it cs own sc pl =>
      have cv : locB k i y = true := by
        rw [okT] at c1
        exact c1
      rw [okE] at c2
      simp only [Bool.and_eq_true] at c2
      obtain ⟨d1, d2, d3, d4, d5, d6, d7⟩ := c2
      unfold asgB at c3
      obtain ⟨k1, k2⟩ := Bool.and_eq_true_iff.mp c3
      cases hs : swpB k y py sc pl with
      | false => exact z_asg C W hx G (by unfold asgB; exact c3) (congrArg pure (swp_no C W hx G k1 hs)) (sndTg _ k hx X W G.g c1) (sndE (.lc mf elt tg it cs own sc pl) k hx X W G.g (by rw [okE]; simp only [Bool.and_eq_true]; exact ⟨d1, d2, d3, d4, d5, d6, d7⟩)).1
      | true =>
      rw [hs] at k2
      exact z_lc C W hx G k1 (by simpa using k2) hs cv (by rw [G.g.hN, G.g.sc]; exact blkOk_by d2) (own_of d3) (sndI it tg k hx X W G.g d4)
        (fun s H A cl fp => sndTg tg _ _ _ _ (G.g.blk s H sc cl A fp) d5) (fun s H A cl fp => (sndO cs _ _ _ _ (G.g.blk s H sc cl A fp) d6).2) (fun s H A cl fp => (sndE elt _ _ _ _ (G.g.blk s H sc cl A fp) d7).1)
    | lc2 mf elt tg it cs tg' it' cs' own vs' sc pl =>
      have cv : locB k i y = true := by
        rw [okT] at c1
        exact c1
      rw [okE] at c2
      simp only [Bool.and_eq_true] at c2
      obtain ⟨d1, d2, ⟨d3, d3', d3''⟩, d4, d5, d6, d7, d8, d9, d10⟩ := c2
      unfold asgB at c3
      obtain ⟨k1, k2⟩ := Bool.and_eq_true_iff.mp c3
      cases hs : swpB k y py sc pl with
      | false => exact z_asg C W hx G (by unfold asgB; exact c3) (congrArg pure (swp_no C W hx G k1 hs)) (sndTg _ k hx X W G.g c1) (sndE (.lc2 mf elt tg it cs tg' it' cs' own vs' sc pl) k hx X W G.g (by rw [okE]; simp only [Bool.and_eq_true]; exact ⟨d1, d2, ⟨d3, d3', d3''⟩, d4, d5, d6, d7, d8, d9, d10⟩)).1
      | true =>
      rw [hs] at k2
      exact z_lc2 C W hx G k1 (by simpa using k2) hs cv (by rw [G.g.hN, G.g.sc]; exact blkOk_by d2) (own_of d3) (own_of d3') (own_of d3'') (sndI it tg k hx X W G.g d4)
        (fun s H A cl fp => sndTg tg _ _ _ _ (G.g.blk s H sc cl A fp) d5) (fun s H A cl fp => (sndO cs _ _ _ _ (G.g.blk s H sc cl A fp) d6).2) (fun s H A cl fp => sndI it' tg' _ _ _ _ (G.g.blk s H sc cl A fp) d7) (fun s H A cl fp => sndTg tg' _ _ _ _ (G.g.blk s H sc cl A fp) d8)
        (fun s H A cl fp => (sndO cs' _ _ _ _ (G.g.blk s H sc cl A fp) d9).2) (fun s H A cl fp => (sndE elt _ _ _ _ (G.g.blk s H sc cl A fp) d10).1)
    | _ => exact z_asg C W hx G c3 (sole_none C W hx G fun _ => rfl) (sndTg _ k hx X W G.g c1) (sndE _ k hx X W G.g c2).1
  · exact z_asg C W hx G c3 (sole_none C W hx G fun h => absurd h hn) (sndTg _ k hx X W G.g c1) (sndE _ k hx X W G.g c2).1
mutual
theorem sndS : ∀ (s : S) (k : Kx) (hx : HX) (X : Cx) (W : WX), Gs T C k hx X W → okS T k s = true → PS X s.syn (rS X C W hx s)
  | .asg t e p, k, hx, X, W, G, c => by
    rw [okS] at c
    simp only [Bool.and_eq_true] at c
    exact sndAsg t e p k hx X W G c.1 c.2.1 c.2.2
  | .par2 i j x y a b px py pt kt kk pv p, k, hx, X, W, G, c => by
    rw [okS] at c
    simp only [Bool.and_eq_true, decide_eq_true_eq, Bool.not_eq_true'] at c
    obtain ⟨c1, c2, ⟨c3, c4⟩, c5, c6, c7, ⟨c8, c9⟩, c10, c11⟩ := c
    exact z_par2 C W hx G c1 c2 c3 c4 c5 c6 c7 (sndE a k hx X W G.g c8).1 (sndE b k hx X W G.g c9).1 c10 c11
  | .par3 i j l x y z a b d px py pz pt kt kk pv p, k, hx, X, W, G, c => by
    rw [okS] at c
    simp only [Bool.and_eq_true, decide_eq_true_eq, Bool.not_eq_true'] at c
    obtain ⟨c1, c2, ⟨c3, c4, c5⟩, ⟨c6, c7, c8⟩, ⟨c9, c10, c11⟩, ⟨c12, c13⟩, ⟨c14, c15, c16⟩, c17, c18⟩ := c
    exact z_par3 C W hx G c1 c2 c3 c4 c5 c6 c7 c8 c9 c10 c11 c12 c13 (sndE a k hx X W G.g c14).1 (sndE b k hx X W G.g c15).1 (sndE d k hx X W G.g c16).1 c17 c18
  | .aug o i x px e p, k, hx, X, W, G, c => by
    rw [okS] at c
    simp only [Bool.and_eq_true] at c
    exact z_aug C W hx G c.1 c.2.1 (sndE e k hx X W G.g c.2.2).1
  | .exp e p, k, hx, X, W, G, c => by
    rw [okS] at c
    simp only [Bool.and_eq_true, Bool.not_eq_true'] at c
    exact z_exp C W hx c.1 (sndE e k hx X W G.g c.2).1
  | .ret e p, k, hx, X, W, G, c => by
    rw [okS] at c
    exact z_ret C W hx (sndE e k hx X W G.g c).1
  | .retN p, k, hx, X, W, G, c => z_retN C W hx
  | .ite e a b p, k, hx, X, W, G, c => by
    rw [okS] at c
    simp only [Bool.and_eq_true] at c
    exact z_ite C W hx (sndE e k hx X W G.g c.1).2 (sndB a k hx X W G c.2.1) (sndB b k hx X W G c.2.2)
  | .for_ t it b p, k, hx, X, W, G, c => by
    rw [okS] at c
    simp only [Bool.and_eq_true] at c
    exact z_for C W hx G c.1 c.2.1 (sndI it t k hx X W G.g c.2.2.1) (sndTg t k hx X W G.g c.2.2.2.1) (sndB b k hx X W G c.2.2.2.2)
  | .whl e b p, k, hx, X, W, G, c => by
    rw [okS] at c
    simp only [Bool.and_eq_true] at c
    exact z_whl C W hx G c.1 c.2.1 (sndE e k hx X W G.g c.2.2.1).2 (sndB b k hx X W G c.2.2.2)
  | .brk p, k, hx, X, W, G, c => z_brk C W hx
  | .cnt p, k, hx, X, W, G, c => z_cnt C W hx
  | .pas p, k, hx, X, W, G, c => z_pas C W hx
  | .rai x mm j p0 p1 p2 p, k, hx, X, W, G, c => by
    rw [okS] at c
    simp only [Bool.and_eq_true, List.contains_iff_mem] at c
    exact z_rai C W hx G c.1 c.2.2.1 c.2.2.2
  | .raf x f e p0 p1 p, k, hx, X, W, G, c => by
    rw [okS] at c
    simp only [Bool.and_eq_true, decide_eq_true_eq] at c
    exact z_raf C W hx G c.1 c.2.2.1 c.2.2.2.1 (sndE e k hx X W G.g c.2.2.2.2).1
  | .try_ b hs p, k, hx, X, W, G, c => by
    rw [okS] at c
    simp only [Bool.and_eq_true] at c
    obtain ⟨c1, c2, c3, c4, c5, c6⟩ := c
    exact z_try G c1 c2 c3 c5 (fun W1 pn xe tk po => sndB b k hx _ W1 (G.tr c1 tk po) c4) (sndH hs k hx X W G c1 c5 c6)
  | .skip, k, hx, X, W, G, c => by
    rw [okS] at c
    cases c
  | .seq _ _, k, hx, X, W, G, c => by
    rw [okS] at c
    cases c
  | .hd _ _ _ _ _ _, k, hx, X, W, G, c => by
    rw [okS] at c
    cases c
theorem sndB : ∀ (s : S) (k : Kx) (hx : HX) (X : Cx) (W : WX), Gs T C k hx X W → okB T k s = true → PSs X s.blk (rS X C W hx s)
  | .skip, k, hx, X, W, G, c => b_skip C W hx
  | .seq a b, k, hx, X, W, G, c => by
    rw [okB] at c
    simp only [Bool.and_eq_true] at c
    exact b_seq C W hx (sndS a k hx X W G c.1) (sndB b k hx X W G c.2)
  | .asg _ _ _, k, hx, X, W, G, c => by unfold okB at c; cases c
  | .par2 _ _ _ _ _ _ _ _ _ _ _ _ _, k, hx, X, W, G, c => by unfold okB at c; cases c
  | .par3 _ _ _ _ _ _ _ _ _ _ _ _ _ _ _ _ _, k, hx, X, W, G, c => by unfold okB at c; cases c
  | .aug _ _ _ _ _ _, k, hx, X, W, G, c => by unfold okB at c; cases c
  | .exp _ _, k, hx, X, W, G, c => by unfold okB at c; cases c
  | .ret _ _, k, hx, X, W, G, c => by unfold okB at c; cases c
  | .retN _, k, hx, X, W, G, c => by unfold okB at c; cases c
  | .ite _ _ _ _, k, hx, X, W, G, c => by unfold okB at c; cases c
  | .for_ _ _ _ _, k, hx, X, W, G, c => by unfold okB at c; cases c
  | .whl _ _ _, k, hx, X, W, G, c => by unfold okB at c; cases c
  | .brk _, k, hx, X, W, G, c => by unfold okB at c; cases c
  | .cnt _, k, hx, X, W, G, c => by unfold okB at c; cases c
  | .pas _, k, hx, X, W, G, c => by unfold okB at c; cases c
  | .rai _ _ _ _ _ _ _, k, hx, X, W, G, c => by unfold okB at c; cases c
  | .raf _ _ _ _ _ _, k, hx, X, W, G, c => by unfold okB at c; cases c
  | .try_ _ _ _, k, hx, X, W, G, c => by unfold okB at c; cases c
  | .hd _ _ _ _ _ _, k, hx, X, W, G, c => by unfold okB at c; cases c
theorem sndH : ∀ (s : S) (k : Kx) (hx : HX) (X : Cx) (W : WX), Gs T C k hx X W → k.calm = true → catB T k s = true → okH T k s = true → MixOk X s.hds (lH X C s)
  | .skip, k, hx, X, W, G, ca, d, c => h_skip
  | .hd x px nm b p r, k, hx, X, W, G, ca, d, c => by
    unfold okH at c
    unfold catB at d
    simp only [Bool.and_eq_true] at c d
    obtain ⟨c1, c2, c3⟩ := c
    obtain ⟨⟨d1, d2⟩, d3, d4⟩ := d
    have d5 : x ∈ T.exs ∨ ∃ f, (x, f) ∈ T.exf := by
      rcases Bool.or_eq_true_iff.mp d2 with d2 | d2
      · exact .inl (List.contains_iff_mem.mp d2)
      · obtain ⟨q, hq, e⟩ := List.any_eq_true.mp d2
        have e' := of_decide_eq_true e
        subst e'
        exact .inr ⟨q.2, hq⟩
    exact h_hd G c1 d1 ca d5 d3 (fun a ob cl dx pn hz hf => sndB b _ _ _ _ (G.suite hz hf) c2) (sndH r k hx X W G ca d4 c3)
  | .seq _ _, k, hx, X, W, G, ca, d, c => by unfold okH at c; cases c
  | .asg _ _ _, k, hx, X, W, G, ca, d, c => by unfold okH at c; cases c
  | .par2 _ _ _ _ _ _ _ _ _ _ _ _ _, k, hx, X, W, G, ca, d, c => by unfold okH at c; cases c
  | .par3 _ _ _ _ _ _ _ _ _ _ _ _ _ _ _ _ _, k, hx, X, W, G, ca, d, c => by unfold okH at c; cases c
  | .aug _ _ _ _ _ _, k, hx, X, W, G, ca, d, c => by unfold okH at c; cases c
  | .exp _ _, k, hx, X, W, G, ca, d, c => by unfold okH at c; cases c
  | .ret _ _, k, hx, X, W, G, ca, d, c => by unfold okH at c; cases c
  | .retN _, k, hx, X, W, G, ca, d, c => by unfold okH at c; cases c
  | .ite _ _ _ _, k, hx, X, W, G, ca, d, c => by unfold okH at c; cases c
  | .for_ _ _ _ _, k, hx, X, W, G, ca, d, c => by unfold okH at c; cases c
  | .whl _ _ _, k, hx, X, W, G, ca, d, c => by unfold okH at c; cases c
  | .brk _, k, hx, X, W, G, ca, d, c => by unfold okH at c; cases c
  | .cnt _, k, hx, X, W, G, ca, d, c => by unfold okH at c; cases c
  | .pas _, k, hx, X, W, G, ca, d, c => by unfold okH at c; cases c
  | .rai _ _ _ _ _ _ _, k, hx, X, W, G, ca, d, c => by unfold okH at c; cases c
  | .raf _ _ _ _ _ _, k, hx, X, W, G, ca, d, c => by unfold okH at c; cases c
  | .try_ _ _ _, k, hx, X, W, G, ca, d, c => by unfold okH at c; cases c
end
end
end Rf
/-! The begin and the end of a call. -/
namespace Rf
open PySem PySem.Spec PyProof.Rows L2
section
variable {P : Program} {w : World} {K : PySem.W.Frag} {F F' H H' : Hp} {m m' : List Addr} {h h' : Hs}
theorem sep_trim (st : Stp F m H F' m' H') (s : Sep P w K m' F' h' H') {n0 : Nat} (hn : m.length ≤ n0) : ∃ m2, Stp F m H F' m2 H' ∧ Sep P w K m2 F' (trim n0 h') H' := by
  unfold trim
  split
  · rename_i c
    exact ⟨_, st.trim hn, s.trim c⟩
  · exact ⟨m', st, s⟩
theorem rk_all : ∀ {xs : List (NestedKey × Addr × Value)} {kvs : List (D × W)} {ds : List (D × D)}, RKW P w K m F xs kvs → allV datW kvs = some ds → RK P w K F xs ds
  | _, _, _, .nil, e => by
    cases e
    exact .nil
  | _, _, _, .cons (x := x) a b c d e r, q => by
    unfold allV at q
    cases x with
    | d y =>
      cases e with
      | d e =>
        simp only [datW] at q
        split at q
        · rename_i y' ds' e1 e2
          cases e1
          cases q
          exact .cons a b c d e (rk_all r e2)
        · cases q
    | r n => cases q
    | x f y => cases q
/-- an object of the small heap is frozen; what stands behind n0 is forgotten -/
theorem sep_freeze (st : Stp F m H F' m' H') (s : Sep P w K m' F' h' H') {n0 n : Nat} {a : Addr} {o : HO} (hn : m.length ≤ n0) (hl : n0 ≤ n) (c : clean n0 h' = true) (em : m'[n]? = some a) (fa : F' a = none) (ea : H' a = some o) :
    Stp F m H (upd F' a o) (m'.take n0) H' ∧ Sep P w K (m'.take n0) (upd F' a o) (h'.take n0) H' := by
  have ext : ∀ b u, F' b = some u → upd F' a o b = some u := fun b u e => by
    rw [upd_ne (ne_of_none e fa)]
    exact e
  have t := st.trim (n := n0) hn
  have s2 := s.trim c
  refine ⟨⟨fun b u e => ext b u (t.ext b u e), t.pre, t.frm, fun b u e => ?_, t.newM, t.dom⟩, s2.len, s2.nd, fun b u e => ?_, fun k u b e1 e2 => ?_⟩
  · by_cases hb : b = a
    · subst hb
      rcases st.newM b (List.mem_of_getElem? em) with z | z
      · exact .inr (.inr (.inl z))
      · exact .inr (.inl z)
    · rw [upd_ne hb] at e
      exact t.newF b u e
  · by_cases hb : b = a
    · subst hb
      rw [upd_same] at e
      cases e
      exact ea
    · rw [upd_ne hb] at e
      exact s2.sub b u e
  · have hk : k < n0 := by
      have := (List.getElem?_eq_some_iff.mp e2).1
      rw [List.length_take] at this
      omega
    have hb : b ≠ a := fun z => by
      subst z
      rw [List.getElem?_take_of_lt hk] at e2
      have z1 := List.getElem?_eq_some_iff.mp e2
      have z2 := List.getElem?_eq_some_iff.mp em
      have := (List.getElem_inj s.nd).mp (z1.2.trans z2.2.symm)
      omega
    exact (s2.ob k u b e1 e2).mono ext (fun _ _ e => e) rfl fun z => by rw [upd_ne hb]; exact z
theorem datW_d {u : W} {x : D} (e : datW u = some x) : u = .d x := by
  cases u with
  | d y => cases e; rfl
  | r n => cases e
  | x f y => cases e
/-- the end of a body, where the call's end is known -/
theorem res_post {X : Cx} {fz : Bool} {E : XK} {Q : VK} {o : Out} (hn : m.length = h.length) (p : Post X.prog X.w X.K (RW X.prog X.w X.K) E F m H (o.res fz h.length) Q) :
    PostO X (fun c d _ H' => E c d H') none { nx := fun _ H' => Q .non H', rt := Q } F m H o := by
  have hl : m.length ≤ h.length := Nat.le_of_eq hn
  cases o with
  | nx e h1 =>
    intro σ' F1 m1 H1 t s _
    obtain ⟨m2, t2, s2⟩ := sep_trim t s hl
    exact p .non F1 m2 H1 t2 s2 (.d .non)
  | bk e h1 => exact p.elim
  | ct e h1 => exact p.elim
  | no => exact p.elim
  | ex x e h1 =>
    intro dx σ' F1 m1 H1 t s _ er
    obtain ⟨m2, t2, s2⟩ := sep_trim t s hl
    exact p dx F1 m2 H1 t2 s2 er
  | rt u h1 =>
    intro v F1 m1 H1 t s r
    cases u with
    | x f y => exact p.elim
    | d x =>
      obtain ⟨m2, t2, s2⟩ := sep_trim t s hl
      refine p v F1 m2 H1 t2 s2 ?_
      cases r with
      | d r => exact .d r
    | r n =>
      unfold Out.res leave at p
      simp only at p
      split at p
      · split at p
        · rename_i hc
          obtain ⟨hc1, hc2⟩ := hc
          split at p
          · rename_i ws eo
            split at p
            · rename_i ds ed
              cases r with
              | r em =>
                obtain ⟨o', eo', ob⟩ := s.get em
                rw [eo] at eo'
                cases eo'
                obtain ⟨fa, vs, eH, rr⟩ := ob
                obtain ⟨t2, s2⟩ := sep_freeze t s hl hc1 hc2 em fa eH
                refine p _ _ _ _ t2 s2 (.d (.lst (.inl upd_same) ((rds_all rr ed).mono fun b u e => ?_)))
                rw [upd_ne (ne_of_none e fa)]
                exact e
            · exact p.elim
          · rename_i kvs eo
            split at p
            · rename_i ds ed
              cases r with
              | r em =>
                obtain ⟨o', eo', ob⟩ := s.get em
                rw [eo] at eo'
                cases eo'
                obtain ⟨fa, ns, xs, ep, eH, _, nd, rr⟩ := ob
                obtain ⟨t2, s2⟩ := sep_freeze t s hl hc1 hc2 em (fa rfl) eH
                refine p _ _ _ _ t2 s2 (.d (.dct upd_same ns nd ((rk_all rr ed).mono fun b u e => ?_)))
                rw [upd_ne (ne_of_none e (fa rfl))]
                exact e
            · exact p.elim
          · exact p.elim
        · exact p.elim
      · exact p v F1 m1 H1 t s r
/-! ### a call on data alone -/
theorem RW.sh {v : V} {u : W} (k : List Addr) (r : RW P w K m F v u) : RW P w K (k ++ m) F v (u.sh k.length) := by
  cases r with
  | d r => exact .d r
  | @r n a e =>
    refine .r ?_
    rw [List.getElem?_append_right (by omega)]
    rw [Nat.add_sub_cancel]
    exact e
theorem RWs.sh {vs : List V} {us : List W} (k : List Addr) (r : RWs P w K m F vs us) : RWs P w K (k ++ m) F vs (us.map (W.sh k.length)) := by
  induction r with
  | nil => exact .nil
  | cons a _ ih => exact .cons (a.sh k) ih
theorem RKW.sh {xs : List (NestedKey × Addr × Value)} {kvs : List (D × W)} (k : List Addr) (r : RKW P w K m F xs kvs) : RKW P w K (k ++ m) F xs (kvs.map fun kv => (kv.1, kv.2.sh k.length)) := by
  induction r with
  | nil => exact .nil
  | cons a b c d e _ ih => exact .cons a b c d (e.sh k) ih
theorem RF.sh {vs : List (Str × V)} {us : List (Str × W)} (k : List Addr) (r : RF P w K m F vs us) : RF P w K (k ++ m) F vs (us.map fun p => (p.1, p.2.sh k.length)) := by
  induction r with
  | nil => exact .nil
  | cons a _ ih => exact .cons ⟨a.1, a.2.sh k⟩ ih
theorem OB.sh {a : Addr} {o : Ob} (k : List Addr) (q : OB P w K m F H a o) : OB P w K (k ++ m) F H a (o.sh k.length) := by
  cases o with
  | lst ws =>
    obtain ⟨f, vs, e, r⟩ := q
    exact ⟨f, vs, e, r.sh k⟩
  | dct l kvs =>
    obtain ⟨f, ns, xs, ep, e, lk, nd, r⟩ := q
    exact ⟨f, ns, xs, ep, e, lk, nd, r.sh k⟩
  | ins c fs =>
    obtain ⟨f, dx, vs, e, r⟩ := q
    exact ⟨f, dx, vs, e, RF.sh k r⟩
/-- no object of the small heap lies as a caught exception's dict -/
theorem OB.noxd {a : Addr} {o : Ob} (q : OB P w K m F H a o) : ∃ u, H a = some u ∧ ∀ fs, u ≠ .xd fs := by
  cases o with
  | lst ws =>
    obtain ⟨f, vs, e, r⟩ := q
    exact ⟨_, e, fun fs z => by cases z⟩
  | dct l kvs =>
    obtain ⟨f, ns, xs, ep, e, lk, nd, r⟩ := q
    exact ⟨_, e, fun fs z => by cases z⟩
  | ins c fs =>
    obtain ⟨f, dx, vs, e, r⟩ := q
    exact ⟨_, e, fun fs z => by cases z⟩
theorem sep_empty (s : Sep P w K m F h H) : Sep P w K [] F [] H := ⟨rfl, .nil, s.sub, fun n o a e _ => by simp at e⟩
theorem sep_keep (s : Sep P w K m F h H) (t : Stp F [] H F' m' H') (s' : Sep P w K m' F' h' H') : Stp F m H F' m H' ∧ Sep P w K m F' h H' := by
  refine ⟨⟨t.ext, fun _ _ e => e, fun b u e _ => t.frm b u e (List.not_mem_nil), fun b u e => ?_, fun b z => .inl z, t.dom⟩, s.len, s.nd, s'.sub, fun n o a e1 e2 => ?_⟩
  · rcases t.newF b u e with z | z | z | z
    · exact .inl z
    · exact .inr (.inl z)
    · exact absurd z List.not_mem_nil
    · exact .inr (.inr (.inr z))
  · have ob := s.ob n o a e1 e2
    obtain ⟨u, eu, nx⟩ := ob.noxd
    have eu' : H' a = some u := t.frm a u eu List.not_mem_nil
    refine ob.mono t.ext (fun _ _ e => e) (eu'.trans eu.symm) fun z => ?_
    cases q : F' a with
    | none => rfl
    | some u' =>
      rcases t.newF a u' q with y | y | y | ⟨fs, y⟩
      · rw [z] at y; cases y
      · rw [eu] at y; cases y
      · exact absurd y List.not_mem_nil
      · have := s'.sub a u' q
        rw [eu'] at this
        cases this
        exact absurd y (nx fs)
theorem sep_join (s : Sep P w K m F h H) (t : Stp F [] H F' m' H') (s' : Sep P w K m' F' h' H') : Stp F m H F' (m ++ m') H' ∧ Sep P w K (m ++ m') F' (h ++ h'.map (Ob.sh h.length)) H' := by
  obtain ⟨t1, s1⟩ := sep_keep s t s'
  have pre : ∀ (n : Nat) a, m[n]? = some a → (m ++ m')[n]? = some a := fun n a e => by
    rw [List.getElem?_append_left (List.getElem?_eq_some_iff.mp e).1]
    exact e
  have fresh : ∀ a, a ∈ m' → H a = none := fun a ha => by
    rcases t.newM a ha with z | z
    · exact absurd z List.not_mem_nil
    · exact z
  refine ⟨⟨t1.ext, pre, t1.frm, t1.newF, fun b hb => ?_, t1.dom⟩, ?_, ?_, s'.sub, fun n o a e1 e2 => ?_⟩
  · rcases List.mem_append.mp hb with z | z
    · exact .inl z
    · exact .inr (fresh b z)
  · rw [List.length_append, List.length_append, List.length_map, s.len, s'.len]
  · refine List.nodup_append.mpr ⟨s.nd, s'.nd, fun a ha b hb e => ?_⟩
    subst e
    exact s.notin (fresh a hb) ha
  · by_cases hn : n < h.length
    · rw [List.getElem?_append_left hn] at e1
      rw [List.getElem?_append_left (by rw [s.len]; exact hn)] at e2
      exact (s1.ob n o a e1 e2).mono (fun _ _ e => e) pre rfl fun z => z
    · rw [List.getElem?_append_right (Nat.le_of_not_lt hn)] at e1
      rw [List.getElem?_append_right (by rw [s.len]; exact Nat.le_of_not_lt hn)] at e2
      rw [List.getElem?_map] at e1
      obtain ⟨o', e3, rfl⟩ := Option.map_eq_some_iff.mp e1
      rw [s.len] at e2
      have := (s'.ob _ o' a e3 e2).sh m
      rw [s.len] at this
      exact this
theorem home_post {E : XK} {Q : VK} {r : Res W} (s : Sep P w K m F h H) (p : Post P w K (RW P w K) E F m H (home r h) Q) : Post P w K (RW P w K) E F [] H r Q := by
  cases r with
  | no => exact p.elim
  | ex x h1 =>
    intro dx F1 m1 H1 t1 s1 er
    obtain ⟨t2, s2⟩ := sep_keep s t1 s1
    exact p dx F1 m H1 t2 s2 er
  | ok u h1 =>
    intro v F1 m1 H1 t1 s1 r1
    cases u with
    | d x =>
      obtain ⟨t2, s2⟩ := sep_keep s t1 s1
      refine p v F1 m H1 t2 s2 ?_
      cases r1 with
      | d r => exact .d r
    | r n =>
      obtain ⟨t2, s2⟩ := sep_join s t1 s1
      refine p v F1 _ H1 t2 s2 ?_
      have := r1.sh m
      rw [s.len] at this
      exact this
    | x f y => cases r1
theorem rws_data : ∀ {vs : List V} {ws : List W}, RWs P w K m F vs ws → ws.all isD = true → RWs P w K [] F vs ws
  | _, _, .nil, _ => .nil
  | _, _, .cons a r, e => by
    simp only [List.all_cons, Bool.and_eq_true] at e
    refine .cons ?_ (rws_data r e.2)
    cases a with
    | d a => exact .d a
    | r _ => cases e.1
theorem envs_start {hx : HX} {fe : FEnt} {vs : List V} {ws : List W} (r : RWs P w K m F vs ws) : Envs P w K hx m F (L2.start fe.N vs) (begE fe ws) := by
  refine ⟨?_, fun i u q => ?_⟩
  · unfold L2.start begE
    rw [List.length_append, List.length_append, List.length_map, List.length_map, List.length_replicate, List.length_replicate, r.length]
  · unfold begE at q
    unfold L2.start
    by_cases hi : i < ws.length
    · rw [List.getElem?_append_left (by simpa using hi), List.getElem?_map] at q
      rw [List.getElem?_append_left (by rw [List.length_map, r.length]; exact hi), List.getElem?_map]
      obtain ⟨u', e1, e2⟩ := Option.map_eq_some_iff.mp q
      cases e2
      obtain ⟨v, e3, rv⟩ := r.get e1
      rw [e3]
      cases u with
      | d d => exact ⟨v, rfl, rv⟩
      | r n => exact ⟨v, rfl, rv⟩
      | x f y => cases rv
    · rw [List.getElem?_append_right (by simpa using Nat.le_of_not_lt hi), List.getElem?_replicate] at q
      split at q <;> cases q
/-- a body's reading, by the call's -/
theorem body_go {X : Cx} {C : Ct} {fe : FEnt} {E : XK} {Q : VK} {vs : List V} {ws : List W} (s : Sep X.prog X.w X.K m F h H) (r : RWs X.prog X.w X.K m F vs ws) (p : Post X.prog X.w X.K (RW X.prog X.w X.K) E F m H (runF C fe ws h) Q) :
    rS X C (fun c d _ H' => E c d H') none fe.body { nx := fun _ H' => Q .non H', rt := Q } (L2.start fe.N vs) H := by
  unfold runF at p
  split at p
  · split at p
    · rename_i hd
      have r0 := rws_data r hd
      exact ⟨F, [], [], begE fe ws, sep_empty s, envs_start r0, res_post (h := []) rfl (home_post s p)⟩
    · exact ⟨F, m, h, begE fe ws, s, envs_start r, res_post s.len p⟩
  · exact p.elim
end
end Rf
/-! Every def of the table keeps its promise. -/
namespace Rf
open PySem PySem.Spec PyProof.Rows L2
/-- a def's scope is as the library wants it -/
def scK (N P : List Str) (sc : Scope) : Bool := decide (sc.kind = .function) && (!sc.isCoroutine && (!sc.isGenerator && (decide N.Nodup && (decide (N.take P.length = P) && (P.all (fun x => decide (sc.names.lookup x = some .local) || decide (sc.names.lookup x = some .cell)) && sc.names.all fun y => !decide (y.2 = .free))))))
theorem scK_ok {N P : List Str} {sc : Scope} (h : scK N P sc = true) : FnScope N P sc := by
  unfold scK at h
  simp only [Bool.and_eq_true, Bool.not_eq_true', decide_eq_true_eq, List.all_eq_true, Bool.or_eq_true, decide_eq_false_iff_not] at h
  obtain ⟨h1, h2, h3, h4, h5, h6, h7⟩ := h
  exact ⟨h1, h2, h3, h4, h5, h6, h7⟩
/-- the context in which a def's body is checked -/
def FEnt.kx (fe : FEnt) : Kx := ⟨fe.N, fe.sc, fun _ => true, true, true, none⟩
def FEnt.okB (T : Tab) (fe : FEnt) : Bool := scK fe.N fe.ps fe.sc && Rf.okB T fe.kx fe.body
/-- the def at f is the table's i-th -/
def FnF (T : Tab) (K : PySem.W.Frag) (i : Nat) (fe : FEnt) (f : Addr) (fd : FuncData) : Prop := (∃ dvs kws, FunD K fe.name fe.qual fe.ar fe.body.blk fe.sc dvs kws f fd) ∧ BindK K fd fe.ps T.kws i
/-- an exception class's own __init__: self.f = arg -/
structure XIn (K : PySem.W.Frag) (C : Addr) (f : Str) : Prop where
  ok : XfOk K C f
  ox : OexC K C
  ini : ∃ (fI : Addr) (fd : FuncData) (nm qual : Str) (ar : Arguments) (sc : Scope) (dvs : List V) (kws : List (Str × V)) (s a : Str) (p1 p2 p3 p4 : Pos), PySem.W.findIn K (.ref C) "__init__" = some (some (.ref fI)) ∧ PySem.W.typeIn K (.ref fI) = some (.type "function") ∧
    FunD K nm qual ar [.Assign [.Attribute (.Name s p1) f p2] (.Name a p3) p4] sc dvs kws fI fd ∧ scK [s, a] [s, a] sc = true ∧ nameB s = true ∧ nameB a = true ∧ sc.names.lookup s = some .local ∧ sc.names.lookup a = some .local ∧ Binds K fd [s, a] []
/-- what is known of the program -/
structure PF (T : Tab) (P : Program) (w : World) (K : PySem.W.Frag) (mg : Str → Option Value) : Prop where
  ok : ∀ (i : Nat) (fe : FEnt), T.fns[i]? = some fe → fe.okB T = true
  fn : ∀ (i : Nat) (fe : FEnt), T.fns[i]? = some fe → fe.cls = none → ∃ f fd, mg fe.glob = some (.ref f) ∧ FnF T K i fe f fd
  me : ∀ (i : Nat) (fe : FEnt) (c : Str), T.fns[i]? = some fe → fe.cls = some c → ∃ f fd, Cls K (He.ga K c) ∧ Meth K (He.ga K c) fe.name f ∧ FnF T K i fe f fd
  nw : ∀ (i : Nat) (ce : CEnt) (fe : FEnt), T.cls[i]? = some ce → T.fns[ce.init]? = some fe → ∃ f fd, mg ce.name = some (.ref (He.ga K ce.name)) ∧ Mk K (He.ga K ce.name) f ∧ FnF T K ce.init fe f fd
  fr : ∀ x ∈ T.frees, mg x = none
  cn : ∀ x d, T.cn x = some d → ∃ v u, mg x = some u ∧ L2.RelV v u ∧ ∀ F, RD P w K F v d
  at_ : ∀ c f, T.at_ c f = true → Cls K (He.ga K c) ∧ NoAttr K (He.ga K c) f
  exs : ∀ x ∈ T.exs, mg x = some (.ref (He.ga K x)) ∧ PySem.W.excIn K (He.ga K x) He.veBase "ValueError.__new__" = true ∧ PySem.W.keepIn K (.ref (He.ga K x)) = true ∧ PySem.W.subIn K (.ref (He.ga K x)) (.type "BaseException") = some true ∧ PySem.W.typeIn K (.ref (He.ga K x)) = some (.type "type")
  exf : ∀ x f, (x, f) ∈ T.exf → mg x = some (.ref (He.ga K x)) ∧ XIn K (He.ga K x) f
  sub : ∀ x y b, T.sb x y = some b → mg y = some (.ref (He.ga K y)) ∧ PySem.W.exmOne K (.ref (He.ga K x)) (.ref (He.ga K y)) = some b
def ctOf (T : Tab) (wf : Nat) : Nat → Ct
  | 0 => ⟨fun _ _ _ => .no, fun _ _ _ => .no, T.cn, T.sb, T.at_, wf, fun _ _ _ => .no⟩
  | n + 1 => ⟨callN T wf (n + 1), mkI T (callN T wf n), T.cn, T.sb, T.at_, wf, callN T wf n⟩
theorem callN_succ {T : Tab} {wf n f : Nat} : callN T wf (n + 1) f = fun ws h => match T.fns[f]? with
    | some fe => runF (ctOf T wf n) fe ws h
    | none => .no := by
  funext ws h
  cases n <;> rfl
theorem callN_at {T : Tab} {wf n f : Nat} {fe : FEnt} (e : T.fns[f]? = some fe) : callN T wf (n + 1) f = runF (ctOf T wf n) fe := by
  rw [callN_succ]
  funext ws h
  rw [e]
section
variable {T : Tab} {P : Program} {w : World} {K : PySem.W.Frag} {mg : Str → Option Value} {base : Heap}
/-- nothing is promised, nothing is owed -/
theorem fn_no {k n : Nat} {f : Addr} {fd : FuncData} {ps : List Str} (hn : ps.length = n) : FnOk P w K mg base (L2.CX P w) k f fd ps (spG P w K n fun _ _ => .no) :=
  ⟨fun vs H Q E h => by rw [hn]; exact h.1, fun A outer s H args us vs Q E _ _ _ _ ⟨_, F, m, h, ws, _, _, p⟩ => p.elim⟩
theorem nameB_of {x : Str} (h : nameB x = true) : (x == ("__debug__" : Str)) = false ∧ (x == ("__classdict__" : Str)) = false := by
  unfold nameB at h
  simp only [Bool.and_eq_true, Bool.not_eq_true'] at h
  exact ⟨h.1, h.2.1⟩
/-- the exception's own __init__ -/
theorem init_ok {C : Addr} {f : Str} (x : XIn K C f) : ∃ fI fd ps, PySem.W.findIn K (.ref C) "__init__" = some (some (.ref fI)) ∧ PySem.W.typeIn K (.ref fI) = some (.type "function") ∧ Binds K fd ps [] ∧
    FnOk P w K mg base (L2.CX P w) 1 fI fd ps (fun vs H Q E => ∃ a v, vs = [.ref a, v] ∧ H a = some (exo a C none) ∧ ∀ dx, H dx = none → dx ≠ a → Q .non (upd (upd H dx (exd dx [(f, v)])) a (exo a C (some dx)))) := by
  obtain ⟨fI, fd, nm, qual, ar, sc, dvs, kws, s, a, p1, p2, p3, p4, h1, h2, h3, h4, h5, h6, h7, h8, h9⟩ := x.ini
  refine ⟨fI, fd, [s, a], h1, h2, h9, FunD.ok h3 (scK_ok h4) (fun vs H Q E ⟨a, v, e, _⟩ => by rw [e]; rfl) fun cdv A outer s' H vs Q E hr hsp => ?_⟩
  obtain ⟨b, v, rfl, eb, q⟩ := hsp
  have n1 := nameB_of h5
  have n2 := nameB_of h6
  refine ⟨_, pss_one (ps_ost (pe_var (i := 0) rfl (.inl h7) n1.1 n1.2) (pe_var (i := 1) rfl (.inl h8) n2.1 n2.2)), ?_⟩
  refine ⟨v, rfl, .ref b, rfl, b, C, rfl, x.ox, x.ok.2, .inl ⟨eb, fun dx n ne => q dx n ne⟩⟩
theorem fn_lvl (pf : PF T P w K mg) (wf : Nat) : ∀ (n i : Nat) (fe : FEnt) (f : Addr) (fd : FuncData), T.fns[i]? = some fe → FnF T K i fe f fd → FnOk P w K mg base (L2.CX P w) (n + 2) f fd fe.ps (spG P w K fe.ps.length (callN T wf n i)) := by
  intro n
  induction n using Nat.strongRecOn with
  | _ n ih =>
  intro i fe f fd e ff
  cases n with
  | zero => exact fn_no rfl
  | succ n =>
    rw [callN_at e]
    obtain ⟨⟨dvs, kws, F⟩, bd⟩ := ff
    have okb := pf.ok i fe e
    unfold FEnt.okB at okb
    obtain ⟨k1, k2⟩ := Bool.and_eq_true_iff.mp okb
    have fs := scK_ok k1
    refine FunD.ok F fs (fun vs H Q E h => h.1) fun cdv A outer s H vs Q E hr hsp => ?_
    obtain ⟨hl, F1, m, h, ws, sep, rs, p⟩ := hsp
    refine ⟨rS (cxOf (L2.CX P w) P w K mg base fe.N fe.qual fe.sc f cdv A outer s H E) (ctOf T wf n) (fun c d _ H' => E c d H') none fe.body, sndB fe.body fe.kx none _ _ ?_ k2, body_go sep rs p⟩
    have lv : ∀ (i' : Nat) (fe' : FEnt) (f' : Addr) (fd' : FuncData), T.fns[i']? = some fe' → FnF T K i' fe' f' fd' → FnOk P w K mg base (L2.CX P w) (n + 2) f' fd' fe'.ps (spG P w K fe'.ps.length ((ctOf T wf n).fn i')) := fun i' fe' f' fd' e' ff' => by
      cases n with
      | zero => exact fn_no rfl
      | succ n => exact ih (n + 1) (Nat.lt_succ_self _) i' fe' f' fd' e' ff'
    refine { g := { hN := rfl, nd := fs.nd, sc := rfl, fc := fun x e => rfl, calm := fun _ => rfl, hu := ?_, tk := takes_of rfl rfl rfl rfl, fr := pf.fr, cn := ?_, at_ := ?_, fn := ?_, me := ?_, nw := ?_, sp := ?_, hc0 := fun _ => rfl, xf := fun i a Ca dd e => nomatch e }, stk := fun _ => ⟨rfl, rfl⟩, own := fun _ _ => passes_of rfl, exs := ?_, exf := ?_, sub := ?_ }
    · have := hr.un
      show (A.deeper (envOfC fe.qual fe.sc s.heap.objs.size f cdv)).units + 100 < cLine
      omega
    · intro x d e
      exact pf.cn x d (by cases n <;> exact e)
    · intro c f e
      exact pf.at_ c f (by cases n <;> exact e)
    · intro _ i' fe' e' ec
      obtain ⟨f', fd', g1, g2⟩ := pf.fn i' fe' e' ec
      obtain ⟨⟨dv, kw, FD⟩, b2⟩ := id g2
      exact ⟨n + 2, f', fd', g1, FD.kp, hr, ⟨lv i' fe' f' fd' e' g2, b2⟩⟩
    · intro _ i' fe' c e' ec
      obtain ⟨f', fd', g0, g1, g2⟩ := pf.me i' fe' c e' ec
      exact ⟨n + 2, f', fd', g0, g1, hr, ⟨lv i' fe' f' fd' e' g2, g2.2⟩⟩
    · intro _ i' ce fe' ec e'
      obtain ⟨f', fd', g0, g1, g2⟩ := pf.nw i' ce fe' ec e'
      cases n with
      | zero => exact ⟨1, f', fd', fun _ _ => .no, by rfl, g0, g1, hr, ⟨fn_no rfl, g2.2⟩⟩
      | succ n =>
        refine ⟨n + 2, f', fd', callN T wf n ce.init, ?_, g0, g1, hr, ⟨ih n (by omega) ce.init fe' f' fd' e' g2, g2.2⟩⟩
        funext ws h
        show (match T.cls[i']? with
          | some ce => mkG ce.name (callN T wf n ce.init) ws h
          | none => .no) = _
        rw [ec]
    · intro _ i' fe' c e' ec
      obtain ⟨f', fd', g0, g1, g2⟩ := pf.me i' fe' c e' ec
      cases n with
      | zero => exact ⟨1, f', fd', g1, hr, ⟨fn_no rfl, g2.2⟩⟩
      | succ n => exact ⟨n + 2, f', fd', g1, hr, ⟨ih n (by omega) i' fe' f' fd' e' g2, g2.2⟩⟩
    · intro x hx
      obtain ⟨g1, g2, g3, g4, g5⟩ := pf.exs x hx
      exact ⟨g1, g2, g3, raises_own g4 g5⟩
    · intro _ x f' hx
      obtain ⟨g1, g2⟩ := pf.exf x f' hx
      obtain ⟨fI, fdI, ps, z1, z2, z3, z4⟩ := init_ok (P := P) (w := w) (mg := mg) (base := base) g2
      exact ⟨g2.ok, g1, g2.ox, fI, 1, fdI, ps, z1, z2, hr.mono (by omega), z3, z4⟩
    · intro x y b e
      exact pf.sub x y b (by cases n <;> exact e)
end
end Rf
/-! What is known of the program, out of the head's facts. -/
namespace Rf
open PySem PySem.Spec PyProof.Rows L2
/-! ### checks of the frozen part of the heap -/
mutual
def cnB (K : PySem.W.Frag) : Value → D → Bool
  | .none, .none => true
  | .bool b, .bool c => decide (b = c)
  | .int i _, .int j => decide (i = j)
  | .str x _, .str y => decide (x = y)
  | .ref a, .tuple ds => (match K.lookup a with
    | some ⟨.type t, none, .seq its _, _⟩ => decide (t = "tuple") && (decide (its.size ≤ sizeLine) && cnsB K its.toList ds)
    | _ => false)
  | _, _ => false
def cnsB (K : PySem.W.Frag) : List Value → List D → Bool
  | [], [] => true
  | u :: us, d :: ds => cnB K u d && cnsB K us ds
  | _, _ => false
end
mutual
theorem cnB_ok {P : Program} {w : World} {K : PySem.W.Frag} : ∀ {u : Value} {d : D}, cnB K u d = true → ∃ v, L2.RelV v u ∧ ∀ F, RD P w K F v d
  | u, .none, c => by
    cases u <;> first | exact ⟨.non, rfl, fun F => .non⟩ | (unfold cnB at c; cases c)
  | u, .bool b, c => by
    cases u with
    | bool x =>
      unfold cnB at c
      have e := of_decide_eq_true c
      subst e
      exact ⟨.bl x, rfl, fun F => .bl x⟩
    | _ => unfold cnB at c; cases c
  | u, .int i, c => by
    cases u with
    | int x t =>
      unfold cnB at c
      have e := of_decide_eq_true c
      subst e
      exact ⟨.int x, ⟨t, rfl⟩, fun F => .int x⟩
    | _ => unfold cnB at c; cases c
  | u, .str i, c => by
    cases u with
    | str x t =>
      unfold cnB at c
      have e := of_decide_eq_true c
      subst e
      exact ⟨.str x, ⟨t, rfl⟩, fun F => .str x⟩
    | _ => unfold cnB at c; cases c
  | u, .tuple ds, c => by
    cases u with
    | ref a =>
      unfold cnB at c
      split at c
      · rename_i t its n sl e
        simp only [Bool.and_eq_true, decide_eq_true_eq] at c
        obtain ⟨c1, c2, c3⟩ := c
        subst c1
        obtain ⟨vs, r1, r2⟩ := cnsB_ok (P := P) (w := w) c3
        exact ⟨.ref a, rfl, fun F => .tup (.inr ⟨_, its, n, e, rfl, rfl, rfl, c2, r1⟩) (r2 F)⟩
      · cases c
    | _ => unfold cnB at c; cases c
  | u, .list ds, c => by
    cases u <;> (unfold cnB at c; cases c)
  | u, .dict ds, c => by
    cases u <;> (unfold cnB at c; cases c)
theorem cnsB_ok {P : Program} {w : World} {K : PySem.W.Frag} : ∀ {us : List Value} {ds : List D}, cnsB K us ds = true → ∃ vs, Vals vs us ∧ ∀ F, RDs P w K F vs ds
  | [], [], c => ⟨[], .nil, fun F => .nil⟩
  | u :: us, d :: ds, c => by
    unfold cnsB at c
    obtain ⟨c1, c2⟩ := Bool.and_eq_true_iff.mp c
    obtain ⟨v, r1, r2⟩ := cnB_ok (P := P) (w := w) c1
    obtain ⟨vs, r3, r4⟩ := cnsB_ok (P := P) (w := w) c2
    exact ⟨v :: vs, .cons r1 r3, fun F => .cons (r2 F) (r4 F)⟩
  | [], _ :: _, c => by unfold cnsB at c; cases c
  | _ :: _, [], c => by unfold cnsB at c; cases c
end
def gcB (K : PySem.W.Frag) (x : Str) (d : D) : Bool := match PySem.W.nsIn K mainGlobals x with
  | some (some u) => cnB K u d
  | _ => false
def oxB (K : PySem.W.Frag) (C : Addr) : Bool := match K.lookup C with
  | some ⟨.type t, _, .cls cd, sl⟩ => decide (t = "type") && (match cd.mro, sl.toList with
    | .ref C2 :: rest, [_, _, _, _, some (.builtin b), _] => decide (C2 = C) && (decide (b = "ValueError.__new__") && (!cd.hasDel && (cd.hasDict && PySem.HandSPX.refsVE rest)))
    | _, _ => false)
  | _ => false
theorem oxB_ok {K : PySem.W.Frag} {C : Addr} (h : oxB K C = true) : ∃ nm q N bs bm sn sub ab col dd k0 k1 k2 k3 k5, K.lookup C = some (excClassObj nm q C N bs bm true sn sub ab col dd k0 k1 k2 k3 k5 "ValueError.__new__") ∧ PySem.HandSPX.refsVE bm = true := by
  unfold oxB at h
  split at h
  · rename_i t od cd sl e
    obtain ⟨h1, h⟩ := Bool.and_eq_true_iff.mp h
    split at h
    · rename_i C2 rest k0 k1 k2 k3 b k5 em es
      simp only [Bool.and_eq_true, decide_eq_true_eq, Bool.not_eq_true'] at h h1
      obtain ⟨rfl, rfl, h4, h5, h6⟩ := h
      subst h1
      obtain ⟨f1, f2, f3, f4, f5, f6, f7, f8, f9, f10, f11⟩ := cd
      simp only at em h4 h5
      subst em h4 h5
      have e2 : sl = #[k0, k1, k2, k3, some (.builtin "ValueError.__new__"), k5] := by
        obtain ⟨l⟩ := sl
        simp only at es
        rw [es]
      subst e2
      exact ⟨f1, f5, f4, f2, rest, f7, f8, f9, f10, od, k0, k1, k2, k3, k5, e, h6⟩
    · cases h
  · cases h
def xiB (K : PySem.W.Frag) (x f : Str) : Bool := xfB K (He.ga K x) && (decide (PySem.W.findIn K (.ref (He.ga K x)) f = some none) && (oxB K (He.ga K x) && (decide (PySem.W.findIn K (.ref (He.ga K x)) "__setattr__" = some (some (.builtin "object.__setattr__"))) &&
  (decide (PySem.W.findIn K (.ref (He.ga K x)) "__init__" = some (some (.ref (He.ma K (He.ga K x) "__init__")))) && (decide (PySem.W.typeIn K (.ref (He.ma K (He.ga K x) "__init__")) = some (.type "function")) && PySem.W.keepIn K (.ref (He.ga K x)))))))
/-- a def of the table, where it stands -/
def FEnt.dd (fe : FEnt) : He.DefD := ⟨(match fe.cls with
  | none => (fe.glob, none)
  | some c => (c, some fe.name)), fe.name, fe.qual, fe.ar, fe.body.blk, fe.sc, [], []⟩
/-- an exception class's __init__: self.f = arg -/
structure XEnt where
  cls : Str
  fld : Str
  qual : Str
  ar : Arguments
  sc : Scope
  s : Str
  a : Str
  p1 : Pos
  p2 : Pos
  p3 : Pos
  p4 : Pos
def XEnt.st (x : XEnt) : Stmt := .Assign [.Attribute (.Name x.s x.p1) x.fld x.p2] (.Name x.a x.p3) x.p4
def XEnt.dd (x : XEnt) : He.DefD := ⟨(x.cls, some "__init__"), "__init__", x.qual, x.ar, [x.st], x.sc, [], []⟩
def XEnt.okB (x : XEnt) : Bool := scK [x.s, x.a] [x.s, x.a] x.sc && (nameB x.s && (nameB x.a && (decide (x.sc.names.lookup x.s = some .local) && decide (x.sc.names.lookup x.a = some .local))))
/-- the facts that a table wants -/
def Tab.fa (T : Tab) : List He.Fa := T.fns.flatMap (fun fe => match fe.cls with
    | none => [.glo fe.glob]
    | some c => [.cls c, .meth c fe.name]) ++ (T.cls.flatMap (fun ce => [.glo ce.name, .mkr ce.name]) ++ (T.frees.map He.Fa.free ++ (T.exs.flatMap (fun x => [.glo x, .exc x]) ++ (T.sub.flatMap (fun q => [.glo q.2.1, .exm q.1 q.2.1 q.2.2]) ++ (T.att.flatMap (fun q => [.cls q.1, .noat q.1 q.2]) ++ T.exf.map fun q => .glo q.1)))))
def noL (K : PySem.W.Frag) : Bool := K.all fun p => match p.2.cls with
  | .type t => !decide (t = "list")
  | _ => true
def Tab.ex (T : Tab) (K : PySem.W.Frag) : Bool := noL K && ((T.cns.all fun q => gcB K q.1 q.2) && T.exf.all fun q => xiB K q.1 q.2)
/-- how positional arguments are bound -/
def posOk (nm qual : Str) (ar : Arguments) (body : List Stmt) (sc : Scope) (ps : List Str) : Prop := ∀ (kV doc pm : Value) (an : Option Addr) (cdv ct : Value) (us : List Value), us.length = ps.length → bindArgs (PySem.W.fnOf nm qual ar body sc .none kV doc pm an cdv ct) ⟨us, []⟩ = pure (ps.zip us)
def kwOk (T : Tab) (q : Nat × Nat × List Str × List Nat) : Prop := match T.fns[q.1]? with
  | some fe => ∀ (kV doc pm : Value) (an : Option Addr) (cdv ct : Value) (us ws : List Value), us.length = q.2.1 → ws.length = q.2.2.1.length → bindArgs (PySem.W.fnOf fe.name fe.qual fe.ar fe.body.blk fe.sc .none kV doc pm an cdv ct) ⟨us, q.2.2.1.zip ws⟩ = pure (fe.ps.zip (ordW us ws q.2.2.2))
  | none => True
section
variable {K : PySem.W.Frag}
theorem funD_none {x qual : Str} {ar : Arguments} {body : List Stmt} {sc : Scope} {kws : List (Str × V)} {f : Addr} {fd : FuncData} (F : FunD K x qual ar body sc [] kws f fd) : ∃ kV doc pm an cdv ct, fd = PySem.W.fnOf x qual ar body sc .none kV doc pm an cdv ct := by
  obtain ⟨oc, od, dV, kV, doc, pm, an, cdv, ct, osl, rfl, lk, hcd, hD, hK⟩ := F.ex
  rcases hD with ⟨_, rfl⟩ | ⟨e, _⟩
  · exact ⟨kV, doc, pm, an, cdv, ct, rfl⟩
  · exact absurd rfl e
theorem bindK_of {T : Tab} {i : Nat} {fe : FEnt} {kws : List (Str × V)} {f : Addr} {fd : FuncData} (e : T.fns[i]? = some fe) (F : FunD K fe.name fe.qual fe.ar fe.body.blk fe.sc [] kws f fd) (h1 : posOk fe.name fe.qual fe.ar fe.body.blk fe.sc fe.ps) (h2 : ∀ q ∈ T.kws, kwOk T q) : BindK K fd fe.ps T.kws i := by
  obtain ⟨kV, doc, pm, an, cdv, ct, rfl⟩ := funD_none F
  refine ⟨Binds.all (h1 kV doc pm an cdv ct), fun n ks ord hm => ⟨fun s us ws _ l1 l2 => ?_, fun r1 r2 => pair_ord r1 r2 ord⟩⟩
  have z := h2 _ hm
  unfold kwOk at z
  simp only [e] at z
  exact .of_eq (z kV doc pm an cdv ct us ws l1 l2)
def AllI (p : Nat → FEnt → Prop) : Nat → List FEnt → Prop
  | _, [] => True
  | n, x :: r => p n x ∧ AllI p (n + 1) r
theorem AllI.at_ {p : Nat → FEnt → Prop} : ∀ {l : List FEnt} {n i : Nat} {x : FEnt}, AllI p n l → l[i]? = some x → p (n + i) x
  | [], _, _, _, _, e => by simp at e
  | y :: r, n, 0, x, h, e => by
    simp at e
    subst e
    exact h.1
  | y :: r, n, i + 1, x, h, e => by
    have z := AllI.at_ (p := p) (i := i) h.2 (by simpa using e)
    rw [Nat.add_assoc, Nat.add_comm 1 i] at z
    exact z
def Tab.clB (T : Tab) : Bool := T.cls.all fun ce => match T.fns[ce.init]? with
  | some fe => decide (fe.cls = some ce.name) && decide (fe.name = "__init__")
  | none => true
theorem xi_ok {x : XEnt} {fd : FuncData} (c : xiB K x.cls x.fld = true) (F : FunD K "__init__" x.qual x.ar [x.st] x.sc [] [] (He.ma K (He.ga K x.cls) "__init__") fd) (ok : x.okB = true) (b : posOk "__init__" x.qual x.ar [x.st] x.sc [x.s, x.a]) : XIn K (He.ga K x.cls) x.fld := by
  unfold xiB at c
  simp only [Bool.and_eq_true, decide_eq_true_eq] at c
  obtain ⟨c1, c2, c3, c4, c5, c6, c7⟩ := c
  have xf := xfB_ok c1
  unfold XEnt.okB at ok
  simp only [Bool.and_eq_true, decide_eq_true_eq] at ok
  obtain ⟨k1, k2, k3, k4, k5⟩ := ok
  have e : ∃ kV doc pm an cdv ct, fd = PySem.W.fnOf "__init__" x.qual x.ar [x.st] x.sc .none kV doc pm an cdv ct := funD_none F
  obtain ⟨kV, doc, pm, an, cdv, ct, rfl⟩ := e
  obtain ⟨nm, q, N, bs, bm, sn, sub, ab, col, dd, k0, k1', k2', k3', k5', el, hr⟩ := oxB_ok c3
  have tyC : PySem.W.typeIn K (.ref (He.ga K x.cls)) = some (.type "type") := by
    show (K.lookup (He.ga K x.cls)).map (·.cls) = _
    rw [el]
    rfl
  refine ⟨⟨xf, c2⟩, ⟨⟨nm, q, N, bs, bm, sn, sub, ab, col, dd, k0, k1', k2', k3', k5', el, hr⟩, c4, xf.exC, tyC, c7⟩, ⟨_, _, _, _, _, _, _, _, x.s, x.a, x.p1, x.p2, x.p3, x.p4, c5, c6, F, k1, k2, k3, k4, k5, Binds.all (b kV doc pm an cdv ct)⟩⟩
/-- everything, out of the head -/
theorem pf_of {T : Tab} {xs : List XEnt} {fn : List He.DefD} {w w' : World} {h : Heap} {mg : Str → Option Value} {P : Program} (c : He.SaysX T.fa fn [] [] T.ex w' h K) (KX : K.In h) (G : h.Ns mainGlobals mg)
    (h1 : AllI (fun i fe => fe.okB T = true ∧ fe.dd ∈ fn ∧ posOk fe.name fe.qual fe.ar fe.body.blk fe.sc fe.ps) 0 T.fns) (h2 : ∀ q ∈ T.kws, kwOk T q) (h3 : T.exf = xs.map fun x => (x.cls, x.fld)) (h5 : T.clB = true)
    (h4 : ∀ x ∈ xs, x.dd ∈ fn ∧ x.okB = true ∧ posOk "__init__" x.qual x.ar [x.st] x.sc [x.s, x.a]) : PF T P w K mg := by
  have cD : He.SaysD T.fa fn K := congrArg (fun z : He.AlT => z.1) c.t
  have fac : ∀ {f : He.Fa}, f ∈ T.fa → f.ok K = true := fun hf => cD.facts hf
  have one : ∀ (i : Nat) (fe : FEnt), T.fns[i]? = some fe → fe.okB T = true ∧ ∃ fd, FnF T K i fe (He.fAd K fe.dd.at_) fd := fun i fe e => by
    obtain ⟨k1, k2, k3⟩ := AllI.at_ h1 e
    obtain ⟨fd, F⟩ := cD.defs k2
    exact ⟨k1, fd, ⟨_, _, F⟩, bindK_of e F k3 h2⟩
  have mex := Bool.and_eq_true_iff.mp (Bool.and_eq_true_iff.mp c.more).2
  have in1 : ∀ {f : He.Fa} (i : Nat) (fe : FEnt), T.fns[i]? = some fe → f ∈ (match fe.cls with
      | none => [He.Fa.glo fe.glob]
      | some c => [.cls c, .meth c fe.name]) → f ∈ T.fa := fun i fe e hf => List.mem_append_left _ (List.mem_flatMap.mpr ⟨fe, List.mem_of_getElem? e, hf⟩)
  refine ⟨fun i fe e => (one i fe e).1, fun i fe e ec => ?_, fun i fe c e ec => ?_, fun i ce fe ei e => ?_, fun x hx => ?_, fun x d e => ?_, fun c f e => ?_, fun x hx => ?_, fun x f hx => ?_, fun x y b e => ?_⟩
  · obtain ⟨_, fd, F⟩ := one i fe e
    have ea : He.fAd K fe.dd.at_ = He.ga K fe.glob := by
      unfold FEnt.dd He.fAd
      simp only [ec]
    rw [ea] at F
    exact ⟨_, fd, He.glo_ok KX G (fac (in1 i fe e (by rw [ec]; exact List.mem_singleton.mpr rfl))), F⟩
  · obtain ⟨_, fd, F⟩ := one i fe e
    have ea : He.fAd K fe.dd.at_ = He.ma K (He.ga K c) fe.name := by
      unfold FEnt.dd He.fAd
      simp only [ec]
    rw [ea] at F
    exact ⟨_, fd, He.cls_ok (fac (in1 i fe e (by rw [ec]; exact List.mem_cons_self))), He.meth_ok (fac (in1 i fe e (by rw [ec]; exact List.mem_cons_of_mem _ (List.mem_singleton.mpr rfl)))), F⟩
  · obtain ⟨_, fd, F⟩ := one ce.init fe e
    unfold Tab.clB at h5
    have z := List.all_eq_true.mp h5 ce (List.mem_of_getElem? ei)
    simp only [e, Bool.and_eq_true, decide_eq_true_eq] at z
    have ea : He.fAd K fe.dd.at_ = He.ma K (He.ga K ce.name) "__init__" := by
      unfold FEnt.dd He.fAd
      simp only [z.1, z.2]
    rw [ea] at F
    have inC : ∀ {f : He.Fa}, f ∈ [He.Fa.glo ce.name, .mkr ce.name] → f ∈ T.fa := fun hf => List.mem_append_right _ (List.mem_append_left _ (List.mem_flatMap.mpr ⟨ce, List.mem_of_getElem? ei, hf⟩))
    exact ⟨_, fd, He.glo_ok KX G (fac (inC List.mem_cons_self)), He.mkr_ok (fac (inC (List.mem_cons_of_mem _ (List.mem_singleton.mpr rfl)))), F⟩
  · exact He.free_ok KX G (fac (by unfold Tab.fa; simp only [List.mem_append, List.mem_map]; exact .inr (.inr (.inl ⟨x, hx, rfl⟩))))
  · unfold Tab.cn at e
    have hm : (x, d) ∈ T.cns := PySem.mem_of_lookup e
    have z : gcB K x d = true := List.all_eq_true.mp mex.1 (x, d) hm
    unfold gcB at z
    split at z
    · rename_i u eu
      obtain ⟨v, r1, r2⟩ := cnB_ok (P := P) (w := w) z
      exact ⟨v, u, PySem.W.mg_of KX G eu, r1, r2⟩
    · cases z
  · unfold Tab.at_ at e
    obtain ⟨q, hq, eq⟩ := List.any_eq_true.mp e
    simp only [Bool.and_eq_true, decide_eq_true_eq] at eq
    obtain ⟨rfl, rfl⟩ := eq
    have inA : ∀ {f : He.Fa}, f ∈ [He.Fa.cls q.1, .noat q.1 q.2] → f ∈ T.fa := fun hf => by
      unfold Tab.fa
      simp only [List.mem_append, List.mem_map]
      exact .inr (.inr (.inr (.inr (.inr (.inl (List.mem_flatMap.mpr ⟨q, hq, hf⟩))))))
    exact ⟨He.cls_ok (fac (inA List.mem_cons_self)), He.noat_ok (fac (inA (List.mem_cons_of_mem _ (List.mem_singleton.mpr rfl))))⟩
  · have inE : ∀ {f : He.Fa}, f ∈ [He.Fa.glo x, .exc x] → f ∈ T.fa := fun hf => by
      unfold Tab.fa
      simp only [List.mem_append, List.mem_map]
      exact .inr (.inr (.inr (.inl (List.mem_flatMap.mpr ⟨x, hx, hf⟩))))
    obtain ⟨g1, g2, g3, g4⟩ := He.exc_ok (fac (inE (List.mem_cons_of_mem _ (List.mem_singleton.mpr rfl))))
    exact ⟨He.glo_ok KX G (fac (inE List.mem_cons_self)), g1, g2, g3, g4⟩
  · have z : xiB K x f = true := List.all_eq_true.mp mex.2 (x, f) hx
    have g0 : He.Fa.glo x ∈ T.fa := by
      unfold Tab.fa
      simp only [List.mem_append, List.mem_map]
      exact .inr (.inr (.inr (.inr (.inr (.inr ⟨(x, f), hx, rfl⟩)))))
    rw [h3] at hx
    obtain ⟨xe, hm, ee⟩ := List.mem_map.mp hx
    cases ee
    obtain ⟨y1, y2, y3⟩ := h4 xe hm
    obtain ⟨fd, F⟩ := cD.defs y1
    exact ⟨He.glo_ok KX G (fac g0), xi_ok z F y2 y3⟩
  · unfold Tab.sb at e
    obtain ⟨q, eq, rfl⟩ := Option.map_eq_some_iff.mp e
    have hm := List.mem_of_find?_eq_some eq
    have hp := List.find?_some eq
    simp only [Bool.and_eq_true, decide_eq_true_eq] at hp
    obtain ⟨rfl, rfl⟩ := hp
    have inS : ∀ {f : He.Fa}, f ∈ [He.Fa.glo q.2.1, .exm q.1 q.2.1 q.2.2] → f ∈ T.fa := fun hf => by
      unfold Tab.fa
      simp only [List.mem_append, List.mem_map]
      exact .inr (.inr (.inr (.inr (.inl (List.mem_flatMap.mpr ⟨q, hm, hf⟩)))))
    exact ⟨He.glo_ok KX G (fac (inS List.mem_cons_self)), He.exm_ok (fac (inS (List.mem_cons_of_mem _ (List.mem_singleton.mpr rfl))))⟩
end
end Rf
/-! The end: a law holds where the evaluator says True. -/
namespace Rf
open PySem PySem.Spec PyProof.Rows L2 PySem.W
theorem lk_mem {α β : Type} [BEq α] [LawfulBEq α] {a : α} {b : β} : ∀ {l : List (α × β)}, l.lookup a = some b → (a, b) ∈ l
  | [], e => by cases e
  | (c, d) :: r, e => by
    rw [List.lookup_cons] at e
    cases z : a == c with
    | true =>
      rw [z] at e
      cases e
      rw [beq_iff_eq.mp z]
      exact List.mem_cons_self
    | false =>
      rw [z] at e
      exact List.mem_cons_of_mem _ (lk_mem e)
theorem noL_at {K : PySem.W.Frag} {h : Heap} {a : Addr} {o : Obj} (c : noL K = true) (KX : K.In h) (e : h.get? a = some o) (ec : o.cls = .type "list") : K.lookup a = none := by
  cases q : K.lookup a with
  | none => rfl
  | some u =>
    have e2 := KX a u q
    rw [e] at e2
    cases e2
    have hm : (a, o) ∈ K := lk_mem q
    have z := List.all_eq_true.mp c (a, o) hm
    simp only [ec] at z
    simp at z
theorem rd_script {P : Program} {w : World} {K : PySem.W.Frag} {H : Hp} {a : Addr} {ns : List Int} (r : Rd H a (.lst (ns.map V.int))) : RD P w K H (.ref a) (.list (ns.map PyData.int)) := by
  refine .lst r ?_
  clear r
  induction ns with
  | nil => exact .nil
  | cons n r ih => exact .cons (.int n) ih
theorem walk_rf {l : PySem.W.OpenLaw} {n N wf i : Nat} {q : Program} {loose : List Str} {XP : (Str → Option Value) → Heap → Prop} {YP : World → Heap → Prop} {d : DefRec} {T : Tab} {xs : List XEnt} {fn : List He.DefD} {fe : FEnt} {x : Str}
    (hn : l.most = some n) (hn2 : n ≤ sizeLine) (hdf : d.params.defaults = []) (hr : Room (N + 2) callerA)
    (Y : ∀ w h, YP w h → ∃ K : PySem.W.Frag, K.In h ∧ He.SaysX T.fa fn [] [] T.ex w h K)
    (h1 : AllI (fun i fe => fe.okB T = true ∧ fe.dd ∈ fn ∧ posOk fe.name fe.qual fe.ar fe.body.blk fe.sc fe.ps) 0 T.fns) (h2 : ∀ q ∈ T.kws, kwOk T q) (h3 : T.exf = xs.map fun x => (x.cls, x.fld)) (h5 : T.clB = true)
    (h4 : ∀ x ∈ xs, x.dd ∈ fn ∧ x.okB = true ∧ posOk "__init__" x.qual x.ar [x.st] x.sc [x.s, x.a])
    (hi : T.fns[i]? = some fe) (hc : fe.cls = none) (hg : fe.glob = d.name) (hp : fe.ps = [x])
    (run : ∀ ns : List Int, ns.length ≤ n → (∀ z ∈ ns, Builtin.Int.intBits z ≤ 1048576) → ∃ h, callN T wf N i [.d (.list (ns.map PyData.int))] [] = .ok (.d (.bool true)) h) :
    PySem.W.WalkO q loose XP YP l.row.toRowW d [] (fun f vs => PySem.call f vs) := by
  refine Att.attach_callB hn hdf fun w s₀ s₁ mg mb fa o pm cd doc a vs ns G Y0 ho hd hcd hmg hobj hints hlen hbits hgens => ?_
  obtain ⟨K, KX, sx⟩ := Y w _ Y0
  have pf : PF T l.prog w K mg := pf_of sx KX G.T.g h1 h2 h3 h5 h4
  obtain ⟨f, fd, g1, ff⟩ := pf.fn i fe hi hc
  have ef : f = fa := by
    rw [hg] at g1
    rw [g1] at hmg
    cases hmg
    rfl
  subst ef
  have kn : K.lookup a = none := noL_at (Bool.and_eq_true_iff.mp sx.more).1 KX hobj rfl
  have hb : ∀ (s : Shared) (u : Value), BindsTo s fd ⟨[u], []⟩ [(x, u)] := fun s u => by
    obtain ⟨⟨dvs, kws, F⟩, bd⟩ := ff
    obtain ⟨k1, k2, k3⟩ := AllI.at_ h1 hi
    have cD : He.SaysD T.fa fn K := congrArg (fun z : He.AlT => z.1) sx.t
    obtain ⟨fd2, F2⟩ := cD.defs k2
    have ea : He.fAd K fe.dd.at_ = f := by
      have z : He.fAd K fe.dd.at_ = He.ga K fe.glob := by
        unfold FEnt.dd He.fAd
        simp only [hc]
      rw [z]
      have g2 := He.glo_ok KX G.T.g (cD.facts (f := .glo fe.glob) (List.mem_append_left _ (List.mem_flatMap.mpr ⟨fe, List.mem_of_getElem? hi, by rw [hc]; exact List.mem_singleton.mpr rfl⟩)))
      rw [g1] at g2
      cases g2
      rfl
    rw [ea] at F2
    obtain ⟨oc, od, dV, kV, doc', pm', an, cdv, ct, osl, e1, lk, hcd', hD, hK⟩ := F.ex
    obtain ⟨oc2, od2, dV2, kV2, doc2, pm2, an2, cdv2, ct2, osl2, e2, lk2, hcd2, hD2, hK2⟩ := F2.ex
    rw [lk] at lk2
    have efd : fd = fd2 := by
      cases lk2
      rfl
    subst efd
    obtain ⟨kV3, doc3, pm3, an3, cdv3, ct3, e3⟩ := funD_none F2
    have z := k3 kV3 doc3 pm3 an3 cdv3 ct3 [u] (by rw [hp]; rfl)
    rw [hp] at z
    rw [e3]
    exact .of_eq z
  refine law_call KX G.T.g G.T.b G.T.builtins G.T.nolimit hgens hobj hints (Nat.le_trans hlen hn2) hr (x := x) (sp := spG l.prog w K fe.ps.length (callN T wf N i)) (CX := L2.CX l.prog w) (fun base kb nb => ?_) hb (fun H hO hS => ?_) fun H e s' hq => ?_
  · have z := fn_lvl (base := base) pf wf N i fe f fd hi ff
    rw [hp] at z ⊢
    exact z
  · refine ⟨by rw [hp]; rfl, ?_⟩
    have r : Rd H a (.lst (ns.map V.int)) := by
      rcases hS with r | ⟨o, its, m, e, _⟩
      · exact r
      · rw [kn] at e
        cases e
    refine ⟨H, [], [], [.d (.list (ns.map PyData.int))], ⟨rfl, .nil, fun _ _ e => e, fun k o a e _ => by simp at e⟩, .cons (.d (rd_script r)) .nil, ?_⟩
    obtain ⟨h, e⟩ := run ns hlen hbits
    rw [e]
    intro b F' m' H' _ _ rr
    cases rr with
    | d rr =>
      cases rr
      rfl
  · obtain ⟨_, _, _, _, _, _, _, _, _, _, _, _, z⟩ := hq
    exact z
end Rf
/-! Equations of the evaluator, in the form in which the plain laws use them: tests as `if`, failures as opB. -/
namespace Rf
open PySem PySem.Spec PyProof.Rows L2
def opB {α β : Type} (o : Option α) (k : α → Res β) : Res β := match o with
  | some a => k a
  | none => .no
def opO {α : Type} (o : Option α) (k : α → Out) : Out := match o with
  | some a => k a
  | none => .no
section
variable {α β γ : Type}
theorem opB_some (a : α) (k : α → Res β) : opB (some a) k = k a := rfl
theorem opO_some (a : α) (k : α → Out) : opO (some a) k = k a := rfl
theorem bd_ok (a : α) (h : Hs) (k : α → Hs → Res β) : (Res.ok a h).bd k = k a h := rfl
theorem bd_ex (x : Exn) (h : Hs) (k : α → Hs → Res β) : (Res.ex x h).bd k = .ex x h := rfl
theorem bd_rok (x : D) (h : Hs) (k : W → Hs → Res β) : (rok x h).bd k = k (.d x) h := rfl
theorem out_ok (a : α) (h : Hs) (e : Env) (k : α → Hs → Out) : (Res.ok a h).out e k = k a h := rfl
theorem out_rok (x : D) (h : Hs) (e : Env) (k : W → Hs → Out) : (rok x h).out e k = k (.d x) h := rfl
theorem out_ex (x : Exn) (h : Hs) (e : Env) (k : α → Hs → Out) : (Res.ex x h : Res α).out e k = .ex x e h := rfl
theorem bd_ite {p : Prop} [Decidable p] (r s : Res α) (k : α → Hs → Res β) : (if p then r else s).bd k = if p then r.bd k else s.bd k := by split <;> rfl
theorem out_ite {p : Prop} [Decidable p] (r s : Res α) (e : Env) (k : α → Hs → Out) : (if p then r else s).out e k = if p then r.out e k else s.out e k := by split <;> rfl
theorem bd_bd (r : Res α) (k : α → Hs → Res β) (l : β → Hs → Res γ) : (r.bd k).bd l = r.bd fun a h => (k a h).bd l := by cases r <;> rfl
theorem pz_nx_ok (a : α) (h : Hs) : (Res.ok a h).nx = .ok a h := rfl
theorem nx_rok (x : D) (h : Hs) : (rok x h).nx = rok x h := rfl
end
/-- a slot's value -/
def varW (o : Option (Option W)) (h : Hs) : Res W := match o with
  | some (some (.d x)) => .ok (.d x) h
  | some (some (.r n)) => .ok (.r n) h
  | _ => .no
theorem varW_d (x : D) (h : Hs) : varW (some (some (.d x))) h = .ok (.d x) h := rfl
theorem varW_r (n : Nat) (h : Hs) : varW (some (some (.r n))) h = .ok (.r n) h := rfl
section
variable {C : Ct} {e : Env} {h : Hs}
theorem ev_var (i : Nat) (x : Str) (p : Pos) : evE C (.var i x p) e h = varW e[i]? h := by
  rw [evE]
  rfl
theorem ev_int (i : Int) (k : Nat) (p : Pos) : evE C (.int i k p) e h = .ok (.d (.int i)) h := by rw [evE]; rfl
theorem ev_str (i : Str) (k : Nat) (p : Pos) : evE C (.str i k p) e h = .ok (.d (.str i)) h := by rw [evE]; rfl
theorem ev_bl (i : Bool) (k : Nat) (p : Pos) : evE C (.bl i k p) e h = .ok (.d (.bool i)) h := by rw [evE]; rfl
theorem ev_non (k : Nat) (p : Pos) : evE C (.non k p) e h = .ok (.d .none) h := by rw [evE]; rfl
theorem ev_glo (x : Str) (p : Pos) : evE C (.glo x p) e h = opB (C.cn x) fun d => .ok (.d d) h := by
  rw [evE]
  unfold opB
  split <;> rename_i q <;> rw [q] <;> rfl
theorem ev_bin (o : Operator) (m : Bool) (a b : E) (p : Pos) : evE C (.bin o m a b p) e h = (evE C a e h).bd fun w h1 => (evE C b e h1).bd fun v h2 => binW o m w v h2 := by rw [evE]
def negW (w : W) (h : Hs) : Res W := match w with
  | .d (.int i) => .ok (.d (.int (-i))) h
  | _ => .no
theorem negW_i (i : Int) (h : Hs) : negW (.d (.int i)) h = .ok (.d (.int (-i))) h := rfl
theorem ev_neg (a : E) (p : Pos) : evE C (.neg a p) e h = (evE C a e h).bd negW := by
  rw [evE]
  rfl
theorem ev_nott (a : E) (p : Pos) : evE C (.nott a p) e h = (evE C a e h).bd fun w h1 => opB (tru w h1) fun b => .ok (.d (.bool (!b))) h1 := by
  rw [evE]
  congr 1
  funext w h1
  unfold opB
  split <;> rename_i q <;> rw [q] <;> rfl
theorem ev_cmp (o : CmpOp) (a b : E) (p : Pos) : evE C (.cmp o a b p) e h = (evE C a e h).bd fun w h1 => (evE C b e h1).bd fun v h2 => opB (cmpB o w v h2) fun c => .ok (.d (.bool c)) h2 := by
  rw [evE]
  congr 1
  funext w h1
  congr 1
  funext v h2
  unfold cmpW opB
  split <;> rename_i q <;> rw [q] <;> rfl
theorem ev_chn (o o' : CmpOp) (a b c : E) (p : Pos) : evE C (.chn o o' a b c p) e h = (evE C a e h).bd fun w h1 => (evE C b e h1).bd fun v h2 => opB (cmpB o w v h2) fun t => if t = true then (evE C c e h2).bd fun u h3 => opB (cmpB o' v u h3) fun s => .ok (.d (.bool s)) h3 else .ok (.d (.bool false)) h2 := by
  rw [evE]
  congr 1
  funext w h1
  congr 1
  funext v h2
  cases cmpB o w v h2 with
  | none => rfl
  | some t =>
    cases t with
    | false => rfl
    | true =>
      simp only [opB_some, if_true]
      congr 1
      funext u h3
      unfold cmpW opB
      split <;> rename_i q <;> rw [q] <;> rfl
theorem ev_ite (c a b : E) (p : Pos) : evE C (.ite c a b p) e h = (evE C c e h).bd fun w h1 => opB (tru w h1) fun t => if t = true then evE C a e h1 else evE C b e h1 := by
  rw [evE]
  congr 1
  funext w h1
  cases tru w h1 with
  | none => rfl
  | some t => cases t <;> rfl
theorem ev_tup (es : Es) (k : Nat) (p : Pos) : evE C (.tup es k p) e h = (evEs C es e h).bd fun ws h1 => mkt ws h1 := by rw [evE]
theorem ev_lst (m : Bool) (es : Es) (p : Pos) : evE C (.lst m es p) e h = (evEs C es e h).bd fun ws h1 => mkl m ws h1 := by rw [evE]
theorem ev_dic (p : Pos) : evE C (.dic p) e h = .ok (.r h.length) (h ++ [.dct false []]) := by rw [evE]
theorem ev_sub (a b : E) (p : Pos) : evE C (.sub a b p) e h = (evE C a e h).bd fun w h1 => (evE C b e h1).bd fun v h2 => subW w v h2 := by rw [evE]
theorem ev_slc (m : Bool) (a : E) (lo hi : Oe) (p' p : Pos) : evE C (.slc m a lo hi p' p) e h = (evE C a e h).bd fun w h1 => (evO C lo e h1).bd fun i h2 => (evO C hi e h2).bd fun j h3 => slcW m w i j h3 := by rw [evE]
def revW (m : Bool) (w : W) (h : Hs) : Res W := match sq w h with
  | some (false, ws) => mkl m ws.reverse h
  | _ => .no
theorem ev_rev (m : Bool) (a : E) (k : Nat) (p1 p2 p3 p : Pos) : evE C (.rev m a k p1 p2 p3 p) e h = (evE C a e h).bd (revW m) := by
  rw [evE]
  rfl
def fldW (C : Ct) (f : Str) (w : W) (h : Hs) : Res W := match w with
  | .r n => match h[n]? with
    | some (.ins c fs) => if C.att c f = true then opB (fs.lookup f) fun v => .ok v h else .no
    | _ => .no
  | _ => .no
theorem ev_fld (a : E) (f : Str) (p : Pos) : evE C (.fld a f p) e h = (evE C a e h).bd (fldW C f) := by
  rw [evE]
  congr 1
  funext w h1
  unfold fldW opB
  cases w with
  | r n =>
    simp only
    cases h1[n]? with
    | none => rfl
    | some o =>
      cases o with
      | ins c fs =>
        simp only
        cases List.lookup f fs <;> rfl
      | _ => rfl
  | _ => rfl
theorem ev_exf (i : Nat) (x f : Str) (p' p : Pos) : evE C (.exf i x f p' p) e h = match e[i]? with
    | some (some (.x g y)) => if g = f then .ok (.d y) h else .no
    | _ => .no := by
  rw [evE]
  rfl
theorem ev_cal (f : Nat) (x : Str) (es : Es) (ks : Ks) (ord : List Nat) (p0 p : Pos) : evE C (.cal f x es ks ord p0 p) e h = (evEs C es e h).bd fun us h1 => (evKs C ks e h1).bd fun zs h2 => C.fn f (ordW us zs ord) h2 := by rw [evE]
/-- a call of a method of an instance -/
def mclA (c m : Str) (w : W) (h : Hs) (rr : Nat → Res W) : Res W := match w with
  | .r n => match h[n]? with
    | some (.ins c' fs) => if c' = c ∧ fs.lookup m = none then rr n else .no
    | _ => .no
  | _ => .no
theorem ev_mcl (f : Nat) (c m : Str) (a : E) (es : Es) (ks : Ks) (ord : List Nat) (p1 p : Pos) : evE C (.mcl f c m a es ks ord p1 p) e h = (evE C a e h).bd fun w h1 => mclA c m w h1 fun n => (evEs C es e h1).bd fun us h2 => (evKs C ks e h2).bd fun zs h3 => C.fn f (.r n :: ordW us zs ord) h3 := by
  rw [evE]
  rfl
theorem ev_new (c : Nat) (x : Str) (es : Es) (ks : Ks) (ord : List Nat) (p0 p : Pos) : evE C (.new c x es ks ord p0 p) e h = (evEs C es e h).bd fun us h1 => (evKs C ks e h1).bd fun zs h2 => C.new c (ordW us zs ord) h2 := by rw [evE]
theorem ev_bif (b : Bi) (m : Bool) (es : Es) (p0 p : Pos) : evE C (.bif b m es p0 p) e h = (evEs C es e h).bd fun ws h1 => bifW b m ws h1 := by rw [evE]
theorem ev_isi (a : E) (t : Ty) (p1 p0 p : Pos) : evE C (.isi a t p1 p0 p) e h = (evE C a e h).bd fun w h1 => opB (isiW w t h1) fun b => .ok (.d (.bool b)) h1 := by
  rw [evE]
  congr 1
  funext w h1
  unfold opB
  split <;> rename_i q <;> rw [q] <;> rfl
def leniW (C : Ct) (f : Nat) (c : Str) (w : W) (h1 : Hs) : Res W := match w with
    | .r n => (match h1[n]? with
      | some (.ins c' _) => if c' = c then (C.sp f [.r n] h1).bd fun u h2 => (match u with
        | .d (.int i) => if 0 ≤ i ∧ i < 2 ^ 63 then rok (.int i) h2 else .no
        | _ => .no) else .no
      | _ => .no)
    | _ => .no
theorem ev_leni (f : Nat) (c : Str) (a : E) (p0 p : Pos) : evE C (.leni f c a p0 p) e h = (evE C a e h).bd (leniW C f c) := by
  rw [evE]
  rfl
/-- a method, behind its arguments -/
def mthA (m : Mt) (w : W) (h1 : Hs) (rr : Res (List W)) : Res W := if mtB m (kindW w h1) = true then rr.bd fun ws h2 => if kindW w h2 = kindW w h1 then mthW m w ws h2 else .no else .no
theorem ev_mth (m : Mt) (a : E) (es : Es) (p1 p : Pos) : evE C (.mth m a es p1 p) e h = (evE C a e h).bd fun w h1 => mthA m w h1 (evEs C es e h1) := by
  rw [evE]
  rfl
/-- a comprehension's turn -/
def lcT (C : Ct) (tg : Tg) (cs : Oe) (elt : E) (e0 : Env) : Itm → Hs → Res (List W) := fun x h2 => Res.nx ((x.by (fun w => asW C tg w e0 h2) fun w v => asP C tg w v e0 h2).bd fun e3 h3 =>
      (evC C cs e3 h3).bd fun b h4 => if b = true then (evE C elt e3 h4).bd fun w h5 => .ok [w] h5 else .ok [] h4)
def lcT2 (C : Ct) (tg : Tg) (cs : Oe) (tg' : Tg) (it' : It) (cs' : Oe) (elt : E) (e0 : Env) (vs' : List Nat) : Itm → Hs → Res (List W) := fun x h2 => Res.nx ((x.by (fun w => asW C tg w e0 h2) fun w v => asP C tg w v e0 h2).bd fun e3 h3 =>
      (evC C cs e3 h3).bd fun b h4 => if b = true then (evI C it' e3 h4).bd fun s' h5 => lcS (lcT C tg' cs' elt (wipeE e3 vs')) s' h5 else .ok [] h4)
theorem ev_lc (m : Bool) (elt : E) (tg : Tg) (it : It) (cs : Oe) (own : List (Str × Nat)) (sc : Scope) (p : Pos) : evE C (.lc m elt tg it cs own sc p) e h = (evI C it e h).bd fun s h1 => (lcS (lcT C tg cs elt (wipeE e (own.map (·.2)))) s h1).bd fun ws h2 => mkl m ws h2 := by
  rw [evE]
  rfl
theorem ev_lc2 (m : Bool) (elt : E) (tg : Tg) (it : It) (cs : Oe) (tg' : Tg) (it' : It) (cs' : Oe) (own : List (Str × Nat)) (vs' : List Nat) (sc : Scope) (p : Pos) : evE C (.lc2 m elt tg it cs tg' it' cs' own vs' sc p) e h = (evI C it e h).bd fun s h1 => (lcS (lcT2 C tg cs tg' it' cs' elt (wipeE e (own.map (·.2))) vs') s h1).bd fun ws h2 => mkl m ws h2 := by
  rw [evE]
  rfl
theorem and_1 (a : E) : evAnd C (.cons a .nil) e h = evE C a e h := by rw [evAnd]
theorem and_2 (a b : E) (r : Es) : evAnd C (.cons a (.cons b r)) e h = (evE C a e h).bd fun w h1 => opB (tru w h1) fun t => if t = true then evAnd C (.cons b r) e h1 else .ok w h1 := by
  rw [evAnd]
  congr 1
  funext w h1
  cases tru w h1 with
  | none => rfl
  | some t => cases t <;> rfl
theorem or_1 (a : E) : evOr C (.cons a .nil) e h = evE C a e h := by rw [evOr]
theorem or_2 (a b : E) (r : Es) : evOr C (.cons a (.cons b r)) e h = (evE C a e h).bd fun w h1 => opB (tru w h1) fun t => if t = true then .ok w h1 else evOr C (.cons b r) e h1 := by
  rw [evOr]
  congr 1
  funext w h1
  cases tru w h1 with
  | none => rfl
  | some t => cases t <;> rfl
theorem ev_and (es : Es) (p : Pos) : evE C (.and_ es p) e h = evAnd C es e h := by rw [evE]
theorem ev_or (es : Es) (p : Pos) : evE C (.or_ es p) e h = evOr C es e h := by rw [evE]
theorem es_nil : evEs C .nil e h = .ok [] h := by rw [evEs]
theorem es_cons (a : E) (r : Es) : evEs C (.cons a r) e h = (evE C a e h).bd fun w h1 => (evEs C r e h1).bd fun ws h2 => .ok (w :: ws) h2 := by rw [evEs]
theorem ks_nil : evKs C .nil e h = .ok [] h := by rw [evKs]
theorem ks_cons (n : Str) (a : E) (p : Pos) (r : Ks) : evKs C (.cons n a p r) e h = (evE C a e h).bd fun w h1 => (evKs C r e h1).bd fun ws h2 => .ok (w :: ws) h2 := by rw [evKs]
theorem pz_o_none : evO C .none e h = .ok none h := by rw [evO]
def o1 (w : W) (h : Hs) : Res (Option Int) := match w with
  | .d (.int i) => .ok (some i) h
  | _ => .no
theorem o1_i (i : Int) (h : Hs) : o1 (.d (.int i)) h = .ok (some i) h := rfl
theorem pz_o_some (a : E) : evO C (.some a) e h = (evE C a e h).bd o1 := by
  rw [evO]
  rfl
theorem c_none : evC C .none e h = .ok true h := by rw [evC]
theorem c_some (a : E) : evC C (.some a) e h = (evE C a e h).bd fun w h1 => opB (tru w h1) fun b => .ok b h1 := by
  rw [evC]
  congr 1
  funext w h1
  unfold opB
  split <;> rename_i q <;> rw [q] <;> rfl
theorem pz_i_exp (a : E) : evI C (.exp a) e h = (evE C a e h).bd srcW := by
  rw [evI]
theorem pz_i_rng (es : Es) (p0 p : Pos) : evI C (.rng es p0 p) e h = (evEs C es e h).bd rngW := by
  rw [evI]
def enuW (w : W) (h : Hs) : Res Src := match w with
    | .d (.list ds) => .ok (.ws (enuL (ds.map W.d))) h
    | _ => .no
theorem pz_i_enu (a : E) (p0 p : Pos) : evI C (.enu a p0 p) e h = (evE C a e h).bd enuW := by
  rw [evI]
  rfl
def zipW (w v : W) (h2 : Hs) : Res Src := match w, v with
    | .d (.list xs), .d (.list ys) => .ok (.ws (List.zipWith .two (xs.map W.d) (ys.map W.d))) h2
    | .d (.tuple xs), .d (.tuple ys) => .ok (.ws (List.zipWith .two (xs.map W.d) (ys.map W.d))) h2
    | _, _ => .no
theorem pz_i_zip (a b : E) (p0 p : Pos) : evI C (.zip a b p0 p) e h = (evE C a e h).bd fun w h1 => (evE C b e h1).bd fun v h2 => zipW w v h2 := by
  rw [evI]
  rfl
theorem pz_i_vals (a : E) (p1 p : Pos) : evI C (.vals a p1 p) e h = (evE C a e h).bd fun w h1 => lockW (fun kv => .one kv.2) w h1 := by rw [evI]
theorem i_items (a : E) (p1 p : Pos) : evI C (.items a p1 p) e h = (evE C a e h).bd fun w h1 => lockW (fun kv => .two (.d kv.1) kv.2) w h1 := by rw [evI]
theorem as_var (i : Nat) (x : Str) (p : Pos) (w : W) : asW C (.var i x p) w e h = .ok (e.set i (some w)) h := by rw [asW]
def asT (C : Ct) (ts : Tgs) (w : W) (e : Env) (h : Hs) : Res Env := match sq w h with
    | some (_, ws) => asWs C ts ws e h
    | none => .no
theorem as_tup (ts : Tgs) (k : Nat) (p : Pos) (w : W) : asW C (.tup ts k p) w e h = asT C ts w e h := by
  rw [asW]
  rfl
theorem asT_tup (ts : Tgs) (ds : List D) : asT C ts (.d (.tuple ds)) e h = asWs C ts (ds.map W.d) e h := rfl
theorem asT_lst (ts : Tgs) (ds : List D) : asT C ts (.d (.list ds)) e h = asWs C ts (ds.map W.d) e h := rfl
theorem as_sub (a b : E) (p : Pos) (w : W) : asW C (.sub a b p) w e h = (evE C a e h).bd fun o h1 => (evE C b e h1).bd fun k h2 => opB (setIx o k w h2) fun h3 => .ok e h3 := by
  rw [asW]
  congr 1
  funext o h1
  congr 1
  funext k h2
  unfold opB
  split <;> rename_i q <;> rw [q] <;> rfl
theorem as_fld (a : E) (f : Str) (p : Pos) (w : W) : asW C (.fld a f p) w e h = (evE C a e h).bd fun o h1 => opB (setFd C.att o f w h1) fun h2 => .ok e h2 := by
  rw [asW]
  congr 1
  funext o h1
  unfold opB
  split <;> rename_i q <;> rw [q] <;> rfl
theorem ass_nil : asWs C .nil [] e h = .ok e h := by rw [asWs]
theorem ass_cons (t : Tg) (r : Tgs) (w : W) (ws : List W) : asWs C (.cons t r) (w :: ws) e h = (asW C t w e h).bd fun e1 h1 => asWs C r ws e1 h1 := by rw [asWs]
theorem asP_2 (t u : Tg) (k : Nat) (p : Pos) (a b : W) : asP C (.tup (.cons t (.cons u .nil)) k p) a b e h = (asW C t a e h).bd fun e1 h1 => asW C u b e1 h1 := by rw [asP]
theorem by_one {α : Type} (w : W) (f : W → α) (g : W → W → α) : (Itm.one w).by f g = f w := rfl
theorem by_two {α : Type} (w v : W) (f : W → α) (g : W → W → α) : (Itm.two w v).by f g = g w v := rfl
/-! ### statements -/
theorem s_skip : evS C .skip e h = .nx e h := by rw [evS]
def Out.sq (o : Out) (k : Env → Hs → Out) : Out := match o with
  | .nx e h => k e h
  | o => o
theorem sq_nx (e : Env) (h : Hs) (k : Env → Hs → Out) : (Out.nx e h).sq k = k e h := rfl
theorem sq_rt (w : W) (h : Hs) (k : Env → Hs → Out) : (Out.rt w h).sq k = .rt w h := rfl
theorem sq_bk (e : Env) (h : Hs) (k : Env → Hs → Out) : (Out.bk e h).sq k = .bk e h := rfl
theorem sq_ct (e : Env) (h : Hs) (k : Env → Hs → Out) : (Out.ct e h).sq k = .ct e h := rfl
theorem sq_ex (x : Exn) (e : Env) (h : Hs) (k : Env → Hs → Out) : (Out.ex x e h).sq k = .ex x e h := rfl
theorem sq_ite {p : Prop} [Decidable p] (a b : Out) (k : Env → Hs → Out) : (if p then a else b).sq k = if p then a.sq k else b.sq k := by split <;> rfl
theorem s_seq (a b : S) : evS C (.seq a b) e h = (evS C a e h).sq fun e1 h1 => evS C b e1 h1 := by
  rw [evS]
  cases evS C a e h <;> rfl
theorem s_asg (t : Tg) (x : E) (p : Pos) : evS C (.asg t x p) e h = (evE C x e h).out e fun w h1 => (asW C t w e h1).nx.out e fun e2 h2 => .nx e2 h2 := by rw [evS]
theorem s_par2 (i j : Nat) (x y : Str) (a b : E) (p1 p2 p3 : Pos) (k1 k2 : Nat) (p4 p5 : Pos) : evS C (.par2 i j x y a b p1 p2 p3 k1 k2 p4 p5) e h = (evE C a e h).out e fun w h1 => (evE C b e h1).out e fun v h2 => .nx ((e.set i (some w)).set j (some v)) h2 := by rw [evS]
theorem s_par3 (i j l : Nat) (x y z : Str) (a b c : E) (p1 p2 p2' p3 : Pos) (k1 k2 : Nat) (p4 p5 : Pos) : evS C (.par3 i j l x y z a b c p1 p2 p2' p3 k1 k2 p4 p5) e h = (evE C a e h).out e fun w h1 => (evE C b e h1).out e fun v h2 => (evE C c e h2).out e fun u h3 => .nx (((e.set i (some w)).set j (some v)).set l (some u)) h3 := by rw [evS]
def augW (o : Operator) (i : Nat) (e : Env) (r : Hs → Res W) (h : Hs) (v : Option (Option W)) : Out := match v with
    | some (some (.d (.int a))) => (r h).out e fun w h1 => (match w with
      | .d (.int b) => (match o with
        | .Add => .nx (e.set i (some (.d (.int (a + b))))) h1
        | .Sub => .nx (e.set i (some (.d (.int (a - b))))) h1
        | _ => .no)
      | _ => .no)
    | _ => .no
theorem s_aug (o : Operator) (i : Nat) (x : Str) (px : Pos) (y : E) (p : Pos) : evS C (.aug o i x px y p) e h = augW o i e (evE C y e) h e[i]? := by
  rw [evS]
  rfl
theorem s_exp (x : E) (p : Pos) : evS C (.exp x p) e h = (evE C x e h).out e fun _ h1 => .nx e h1 := by rw [evS]
theorem s_ret (x : E) (p : Pos) : evS C (.ret x p) e h = (evE C x e h).out e fun w h1 => .rt w h1 := by rw [evS]
theorem s_retN (p : Pos) : evS C (.retN p) e h = .rt (.d .none) h := by rw [evS]
theorem tst_ok (w : W) (h : Hs) : tst (.ok w h) = opB (tru w h) fun b => .ok b h := by
  unfold tst opB
  show (match tru w h with
    | some b => Res.ok b h
    | none => .no) = _
  split <;> rename_i q <;> rw [q]
theorem tst_ex (x : Exn) (h : Hs) : tst (.ex x h) = .ex x h := rfl
theorem pz_tst_ite {p : Prop} [Decidable p] (r s : Res W) : tst (if p then r else s) = if p then tst r else tst s := by split <;> rfl
theorem pz_s_ite (c : E) (a b : S) (p : Pos) : evS C (.ite c a b p) e h = (tst (evE C c e h)).out e fun t h1 => if t = true then evS C a e h1 else evS C b e h1 := by rw [evS]
def forT (C : Ct) (t : Tg) (b : S) : Itm → Env → Hs → Out := fun x e2 h2 => (x.by (fun w => asW C t w e2 h2) fun w v => asP C t w v e2 h2).nx.out e2 fun e3 h3 => evS C b e3 h3
theorem s_for (t : Tg) (it : It) (b : S) (p : Pos) : evS C (.for_ t it b p) e h = (evI C it e h).out e fun s h1 => forS (forT C t b) s e h1 := by
  rw [evS]
  rfl
theorem s_whl (c : E) (b : S) (p : Pos) : evS C (.whl c b p) e h = whlL (fun e1 h1 => tst (evE C c e1 h1)) (fun e1 h1 => evS C b e1 h1) C.wf e h := by rw [evS]
theorem s_brk (p : Pos) : evS C (.brk p) e h = .bk e h := by rw [evS]
theorem s_cnt (p : Pos) : evS C (.cnt p) e h = .ct e h := by rw [evS]
theorem s_pas (p : Pos) : evS C (.pas p) e h = .nx e h := by rw [evS]
theorem s_rai (x m : Str) (k : Nat) (p0 p1 p2 p : Pos) : evS C (.rai x m k p0 p1 p2 p) e h = .ex ⟨x, none⟩ e h := by rw [evS]
def rafW (x f : Str) (e : Env) (w : W) (h : Hs) : Out := match w with
    | .d d => .ex ⟨x, some (f, d)⟩ e h
    | _ => .no
theorem rafW_d (x f : Str) (e : Env) (d : D) (h : Hs) : rafW x f e (.d d) h = .ex ⟨x, some (f, d)⟩ e h := rfl
theorem s_raf (x f : Str) (y : E) (p0 p1 p : Pos) : evS C (.raf x f y p0 p1 p) e h = (evE C y e h).out e (rafW x f e) := by
  rw [evS]
  rfl
def tryW (C : Ct) (hs : S) : Out → Out
  | .ex x e h => evH C hs x e h
  | o => o
theorem try_ex (hs : S) (x : Exn) : tryW C hs (.ex x e h) = evH C hs x e h := rfl
theorem try_nx (hs : S) : tryW C hs (.nx e h) = .nx e h := rfl
theorem try_rt (hs : S) (w : W) : tryW C hs (.rt w h) = .rt w h := rfl
theorem s_try (b hs : S) (p : Pos) : evS C (.try_ b hs p) e h = tryW C hs (evS C b e h) := by
  rw [evS]
  cases evS C b e h <;> rfl
theorem h_hd0 (c : Str) (px : Pos) (b : S) (p : Pos) (r : S) (x : Exn) : evH C (.hd c px none b p r) x e h = opO (C.sub x.cls c) fun t => if t = true then (evS C b e h).nox else evH C r x e h := by
  rw [evH]
  cases C.sub x.cls c with
  | none => rfl
  | some t => cases t <;> rfl
theorem h_hd1 (c : Str) (px : Pos) (q : Nat × Str) (b : S) (p : Pos) (r : S) (x : Exn) : evH C (.hd c px (some q) b p r) x e h = opO (C.sub x.cls c) fun t => if t = true then (evS C b (e.set q.1 x.w) h).gone q.1 else evH C r x e h := by
  rw [evH]
  cases C.sub x.cls c with
  | none => rfl
  | some t => cases t <;> rfl
theorem pz_h_skip (x : Exn) : evH C .skip x e h = .ex x e h := by
  unfold evH
  rfl
end
end Rf
/-! Primitive steps on shapes; calls; loops; data that is plain. -/
namespace Rf
open PySem PySem.Spec PyProof.Rows L2
/-! ### plain data: numbers, None, texts, tuples of such; no deeper than n -/
mutual
def kd : Nat → D → Bool
  | _, .none => true
  | _, .int _ => true
  | _, .str s => PyData.strOk s
  | 0, .tuple _ => false
  | n + 1, .tuple xs => kds n xs
  | _, .bool _ => false
  | _, .list _ => false
  | _, .dict _ => false
def kds : Nat → List D → Bool
  | _, [] => true
  | n, x :: xs => kd n x && kds n xs
end
theorem kds_iff {n : Nat} : ∀ {xs : List D}, kds n xs = true ↔ ∀ x ∈ xs, kd n x = true
  | [] => by simp [kds]
  | x :: xs => by simp [kds, kds_iff (xs := xs)]
theorem kd_tup {n : Nat} {xs : List D} (h : ∀ x ∈ xs, kd n x = true) : kd (n + 1) (.tuple xs) = true := by
  rw [kd]
  exact kds_iff.mpr h
theorem kd_int (n : Nat) (i : Int) : kd n (.int i) = true := by cases n <;> rw [kd]
theorem kd_none (n : Nat) : kd n .none = true := by cases n <;> rw [kd]
theorem kd_str {n : Nat} {s : Str} (h : PyData.strOk s = true) : kd n (.str s) = true := by cases n <;> (rw [kd]; exact h)
theorem kd_items {n : Nat} {xs : List D} (h : kd (n + 1) (.tuple xs) = true) : ∀ x ∈ xs, kd n x = true := by
  rw [kd] at h
  exact kds_iff.mp h
mutual
theorem kd_mono : ∀ {n m : Nat} {x : D}, n ≤ m → kd n x = true → kd m x = true
  | n, m, .none, _, _ => kd_none m
  | n, m, .int i, _, _ => kd_int m i
  | n, m, .str s, _, h => by
    refine kd_str ?_
    cases n <;> (rw [kd] at h; exact h)
  | 0, m, .tuple xs, _, h => by rw [kd] at h; cases h
  | n + 1, m, .tuple xs, l, h => by
    rw [kd] at h
    obtain ⟨m, rfl⟩ : ∃ k, m = k + 1 := ⟨m - 1, by omega⟩
    rw [kd]
    exact kds_mono (by omega) h
  | n, m, .bool _, _, h => by cases n <;> (rw [kd] at h; cases h)
  | n, m, .list _, _, h => by cases n <;> (rw [kd] at h; cases h)
  | n, m, .dict _, _, h => by cases n <;> (rw [kd] at h; cases h)
theorem kds_mono : ∀ {n m : Nat} {xs : List D}, n ≤ m → kds n xs = true → kds m xs = true
  | _, _, [], _, _ => by rw [kds]
  | n, m, x :: xs, l, h => by
    rw [kds, Bool.and_eq_true] at h ⊢
    exact ⟨kd_mono l h.1, kds_mono l h.2⟩
end
mutual
theorem kd_lay : ∀ {n : Nat} {x : D}, kd n x = true → x.canLay0 = true ∧ x.depth ≤ n
  | n, .none, _ => ⟨by rw [PyData.canLay0], by rw [PyData.depth]; omega⟩
  | n, .int i, _ => ⟨by rw [PyData.canLay0], by rw [PyData.depth]; omega⟩
  | n, .str s, h => ⟨by rw [PyData.canLay0]; cases n <;> (rw [kd] at h; exact h), by rw [PyData.depth]; omega⟩
  | 0, .tuple xs, h => by rw [kd] at h; cases h
  | n + 1, .tuple xs, h => by
    rw [kd] at h
    have z := kds_lay h
    exact ⟨by rw [PyData.canLay0]; exact z.1, by rw [PyData.depth]; omega⟩
  | n, .bool _, h => by cases n <;> (rw [kd] at h; cases h)
  | n, .list _, h => by cases n <;> (rw [kd] at h; cases h)
  | n, .dict _, h => by cases n <;> (rw [kd] at h; cases h)
theorem kds_lay : ∀ {n : Nat} {xs : List D}, kds n xs = true → PyData.canLayAll0 xs = true ∧ PyData.depthAll xs ≤ n
  | n, [], _ => ⟨by rw [PyData.canLayAll0], by rw [PyData.depthAll]; omega⟩
  | n, x :: xs, h => by
    rw [kds, Bool.and_eq_true] at h
    have z1 := kd_lay h.1
    have z2 := kds_lay h.2
    exact ⟨by rw [PyData.canLayAll0, z1.1, z2.1]; rfl, by rw [PyData.depthAll]; omega⟩
end
theorem shp_of {x : D} (h1 : x.canLay0 = true) (h2 : x.depth ≤ 64) : shp x = true := by
  unfold shp SeqAt.shaped
  rw [h1, decide_eq_true h2]
  rfl
theorem kd_shp {n : Nat} {x : D} (h : kd n x = true) (l : n ≤ 64) : shp x = true := shp_of (kd_lay h).1 (Nat.le_trans (kd_lay h).2 l)
theorem shp_lst {n : Nat} {xs : List D} (h : ∀ x ∈ xs, kd n x = true) (l : n < 64) : shp (.list xs) = true := by
  have z := kds_lay (kds_iff.mpr h)
  exact shp_of (by rw [PyData.canLay0]; exact z.1) (by rw [PyData.depth]; omega)
theorem pz_shp_tup {n : Nat} {xs : List D} (h : ∀ x ∈ xs, kd n x = true) (l : n < 64) : shp (.tuple xs) = true := by
  have z := kds_lay (kds_iff.mpr h)
  exact shp_of (by rw [PyData.canLay0]; exact z.1) (by rw [PyData.depth]; omega)
theorem shp_int (i : Int) : shp (.int i) = true := kd_shp (kd_int 0 i) (by omega)
mutual
theorem kd_nk : ∀ {n : Nat} {x : D}, kd n x = true → ∃ k, nk x = some k ∧ k.depth ≤ n
  | n, .none, _ => ⟨.none, by rw [nk], by rw [NestedKey.depth]; omega⟩
  | n, .int i, _ => ⟨.num i, by rw [nk], by rw [NestedKey.depth]; omega⟩
  | n, .str s, _ => ⟨.text s, by rw [nk], by rw [NestedKey.depth]; omega⟩
  | 0, .tuple xs, h => by rw [kd] at h; cases h
  | n + 1, .tuple xs, h => by
    rw [kd] at h
    obtain ⟨ks, e, l⟩ := kds_nk h
    exact ⟨.tup ks, by rw [nk, e]; rfl, by rw [NestedKey.depth]; omega⟩
  | n, .bool _, h => by cases n <;> (rw [kd] at h; cases h)
  | n, .list _, h => by cases n <;> (rw [kd] at h; cases h)
  | n, .dict _, h => by cases n <;> (rw [kd] at h; cases h)
theorem kds_nk : ∀ {n : Nat} {xs : List D}, kds n xs = true → ∃ ks, nks xs = some ks ∧ NestedKey.depthAll ks ≤ n
  | n, [], _ => ⟨[], by rw [nks], by rw [NestedKey.depthAll]; omega⟩
  | n, x :: xs, h => by
    rw [kds, Bool.and_eq_true] at h
    obtain ⟨k, e1, l1⟩ := kd_nk h.1
    obtain ⟨ks, e2, l2⟩ := kds_nk h.2
    exact ⟨k :: ks, by rw [nks, e1, e2], by rw [NestedKey.depthAll]; omega⟩
end
theorem kd_key {n : Nat} {xs : List D} (h : kd n (.tuple xs) = true) (l : n ≤ 8) : keyT (.tuple xs) = true := by
  obtain ⟨k, e, d⟩ := kd_nk h
  unfold keyT
  simp only [e]
  exact decide_eq_true (by omega)
mutual
theorem kd_eqv : ∀ {n m : Nat} {x y : D}, kd n x = true → kd m y = true → (PyData.eqv x y = true ↔ x = y)
  | n, m, .none, y, _, _ => by cases y <;> simp [PyData.eqv]
  | n, m, .int i, y, _, hy => by
    cases y with
    | bool b => cases m <;> (rw [kd] at hy; cases hy)
    | _ => simp [PyData.eqv]
  | n, m, .str s, y, _, _ => by cases y <;> simp [PyData.eqv]
  | 0, m, .tuple xs, y, hx, hy => by rw [kd] at hx; cases hx
  | n + 1, m, .tuple xs, y, hx, hy => by
    cases y with
    | tuple ys =>
      cases m with
      | zero => rw [kd] at hy; cases hy
      | succ m =>
        rw [kd] at hx hy
        rw [PyData.eqv, kds_eqv hx hy]
        simp
    | _ => simp [PyData.eqv]
  | n, m, .bool _, y, h, _ => by cases n <;> (rw [kd] at h; cases h)
  | n, m, .list _, y, h, _ => by cases n <;> (rw [kd] at h; cases h)
  | n, m, .dict _, y, h, _ => by cases n <;> (rw [kd] at h; cases h)
theorem kds_eqv : ∀ {n m : Nat} {xs ys : List D}, kds n xs = true → kds m ys = true → (PyData.eqvAll xs ys = true ↔ xs = ys)
  | n, m, [], ys, _, _ => by cases ys <;> simp [PyData.eqvAll]
  | n, m, x :: xs, ys, hx, hy => by
    cases ys with
    | nil => simp [PyData.eqvAll]
    | cons y ys =>
      rw [kds, Bool.and_eq_true] at hx hy
      rw [PyData.eqvAll, Bool.and_eq_true, kd_eqv hx.1 hy.1, kds_eqv hx.2 hy.2]
      simp
end
/-! ### lists of data -/
theorem allD_d : ∀ xs : List D, allD (xs.map W.d) = some xs
  | [] => rfl
  | x :: xs => by
    show (allD (xs.map W.d)).map (x :: ·) = _
    rw [allD_d xs]
    rfl
theorem mkt_d {xs : List D} {h : Hs} (l : xs.length ≤ lim) : mkt (xs.map W.d) h = .ok (.d (.tuple xs)) h := by
  unfold mkt
  rw [if_pos (by rw [List.length_map]; exact l), allD_d]
  rfl
theorem mkl_d {xs : List D} {h : Hs} (l : xs.length ≤ lim) : mkl false (xs.map W.d) h = .ok (.d (.list xs)) h := by
  unfold mkl
  rw [if_pos (by rw [List.length_map]; exact l), allD_d]
  rfl
theorem mkl_m {ws : List W} {h : Hs} (l : ws.length ≤ lim) : mkl true ws h = .ok (.r h.length) (h ++ [.lst ws]) := by
  unfold mkl
  rw [if_pos l]
  rfl
section
variable {h : Hs} {m : Bool}
theorem mkt_0 : mkt [] h = .ok (.d (.tuple [])) h := rfl
theorem mkt_1 (a : D) : mkt [.d a] h = .ok (.d (.tuple [a])) h := rfl
theorem mkt_2 (a b : D) : mkt [.d a, .d b] h = .ok (.d (.tuple [a, b])) h := rfl
theorem mkt_3 (a b c : D) : mkt [.d a, .d b, .d c] h = .ok (.d (.tuple [a, b, c])) h := rfl
theorem mkt_4 (a b c d : D) : mkt [.d a, .d b, .d c, .d d] h = .ok (.d (.tuple [a, b, c, d])) h := rfl
theorem mkl_0 : mkl false [] h = .ok (.d (.list [])) h := rfl
theorem mkl_1 (a : D) : mkl false [.d a] h = .ok (.d (.list [a])) h := rfl
theorem mkl_2 (a b : D) : mkl false [.d a, .d b] h = .ok (.d (.list [a, b])) h := rfl
theorem mkl_3 (a b c : D) : mkl false [.d a, .d b, .d c] h = .ok (.d (.list [a, b, c])) h := rfl
theorem mkl_4 (a b c d : D) : mkl false [.d a, .d b, .d c, .d d] h = .ok (.d (.list [a, b, c, d])) h := rfl
theorem mkl_5 (a b c d e : D) : mkl false [.d a, .d b, .d c, .d d, .d e] h = .ok (.d (.list [a, b, c, d, e])) h := rfl
theorem mkl_6 (a b c d e f : D) : mkl false [.d a, .d b, .d c, .d d, .d e, .d f] h = .ok (.d (.list [a, b, c, d, e, f])) h := rfl
theorem mkm_0 : mkl true [] h = .ok (.r h.length) (h ++ [.lst []]) := rfl
theorem mkm_1 (a : W) : mkl true [a] h = .ok (.r h.length) (h ++ [.lst [a]]) := rfl
theorem mkm_2 (a b : W) : mkl true [a, b] h = .ok (.r h.length) (h ++ [.lst [a, b]]) := rfl
theorem mkm_3 (a b c : W) : mkl true [a, b, c] h = .ok (.r h.length) (h ++ [.lst [a, b, c]]) := rfl
/-! tests -/
theorem tru_b (b : Bool) : tru (.d (.bool b)) h = some b := rfl
theorem tru_i (i : Int) : tru (.d (.int i)) h = some (i != 0) := rfl
theorem tru_n : tru (.d .none) h = some false := rfl
theorem tru_t (xs : List D) : tru (.d (.tuple xs)) h = some (!xs.isEmpty) := by
  show some (!(xs.map W.d).isEmpty) = _
  rw [List.isEmpty_map]
theorem tru_l (xs : List D) : tru (.d (.list xs)) h = some (!xs.isEmpty) := by
  show some (!(xs.map W.d).isEmpty) = _
  rw [List.isEmpty_map]
theorem isi_d (x : D) (t : Ty) (hx : ∀ k, x ≠ .dict k) : isiW (.d x) t h = some (isiB x t) := by
  cases x with
  | dict k => exact absurd rfl (hx k)
  | _ => rfl
/-! operators on numbers -/
theorem bin_add (i j : Int) : binW .Add m (.d (.int i)) (.d (.int j)) h = .ok (.d (.int (i + j))) h := rfl
theorem bin_sub (i j : Int) : binW .Sub m (.d (.int i)) (.d (.int j)) h = .ok (.d (.int (i - j))) h := rfl
theorem bin_mul {i j : Int} (c : mulB i j = true) : binW .Mult m (.d (.int i)) (.d (.int j)) h = .ok (.d (.int (i * j))) h := by
  unfold binW ibin
  simp only [c, if_true]
  rfl
theorem bin_div {i j : Int} (c : divB j = true) : binW .FloorDiv m (.d (.int i)) (.d (.int j)) h = .ok (.d (.int (i / j))) h := by
  unfold binW ibin
  simp only [c, if_true]
  rfl
theorem bin_mod {i j : Int} (c : 0 < j) : binW .Mod m (.d (.int i)) (.d (.int j)) h = .ok (.d (.int (i % j))) h := by
  unfold binW ibin
  simp only [c, if_true]
  rfl
theorem bin_addt {xs ys : List D} (l : xs.length + ys.length ≤ lim) : binW .Add m (.d (.tuple xs)) (.d (.tuple ys)) h = .ok (.d (.tuple (xs ++ ys))) h := by
  show mkt (xs.map W.d ++ ys.map W.d) h = _
  rw [← List.map_append]
  exact mkt_d (by rw [List.length_append]; exact l)
theorem bin_addl {xs ys : List D} (l : xs.length + ys.length ≤ lim) : binW .Add false (.d (.list xs)) (.d (.list ys)) h = .ok (.d (.list (xs ++ ys))) h := by
  show mkl false (xs.map W.d ++ ys.map W.d) h = _
  rw [← List.map_append]
  exact mkl_d (by rw [List.length_append]; exact l)
/-! comparisons -/
theorem cmp_lt (i j : Int) : cmpB .Lt (.d (.int i)) (.d (.int j)) h = some (decide (i < j)) := rfl
theorem cmp_gt (i j : Int) : cmpB .Gt (.d (.int i)) (.d (.int j)) h = some (decide (j < i)) := rfl
theorem cmp_le (i j : Int) : cmpB .LtE (.d (.int i)) (.d (.int j)) h = some (decide (i ≤ j)) := rfl
theorem cmp_ge (i j : Int) : cmpB .GtE (.d (.int i)) (.d (.int j)) h = some (decide (j ≤ i)) := rfl
theorem cmp_is (a : W) : cmpB .Is a (.d .none) h = some (isNone a) := rfl
theorem cmp_isn (a : W) : cmpB .IsNot a (.d .none) h = some (!isNone a) := rfl
theorem cmp_eq {x y : D} (hx : shp x = true) (hy : shp y = true) : cmpB .Eq (.d x) (.d y) h = some (PyData.eqv x y) := by
  show (if shp x = true ∧ shp y = true then some (PyData.eqv x y) else none) = _
  rw [if_pos ⟨hx, hy⟩]
theorem cmp_ne {x y : D} (hx : shp x = true) (hy : shp y = true) : cmpB .NotEq (.d x) (.d y) h = some (!PyData.eqv x y) := by
  show (if shp x = true ∧ shp y = true then some (!PyData.eqv x y) else none) = _
  rw [if_pos ⟨hx, hy⟩]
theorem cmp_eqi (i j : Int) : cmpB .Eq (.d (.int i)) (.d (.int j)) h = some (i == j) := by
  rw [cmp_eq (shp_int i) (shp_int j)]
  rw [PyData.eqv]
theorem cmp_nei (i j : Int) : cmpB .NotEq (.d (.int i)) (.d (.int j)) h = some (!(i == j)) := by
  rw [cmp_ne (shp_int i) (shp_int j)]
  rw [PyData.eqv]
theorem cmp_int {x : D} {ys : List D} (hx : shp x = true) (hy : shp (.tuple ys) = true) : cmpB .In (.d x) (.d (.tuple ys)) h = some (ys.any fun z => PyData.eqv z x) := by
  show (if shp x = true ∧ shp (.tuple ys) = true then some (ys.any fun z => PyData.eqv z x) else none) = _
  rw [if_pos ⟨hx, hy⟩]
theorem cmp_inl {x : D} {ys : List D} (hx : shp x = true) (hy : shp (.list ys) = true) : cmpB .In (.d x) (.d (.list ys)) h = some (ys.any fun z => PyData.eqv z x) := by
  show (if shp x = true ∧ shp (.list ys) = true then some (ys.any fun z => PyData.eqv z x) else none) = _
  rw [if_pos ⟨hx, hy⟩]
theorem cmp_nint {x : D} {ys : List D} (hx : shp x = true) (hy : shp (.tuple ys) = true) : cmpB .NotIn (.d x) (.d (.tuple ys)) h = some (!ys.any fun z => PyData.eqv z x) := by
  show (memW _ _ h).map (!·) = _
  have z := cmp_int (h := h) hx hy
  have z : memW (.d x) (.d (.tuple ys)) h = _ := z
  rw [z]
  rfl
theorem cmp_ninl {x : D} {ys : List D} (hx : shp x = true) (hy : shp (.list ys) = true) : cmpB .NotIn (.d x) (.d (.list ys)) h = some (!ys.any fun z => PyData.eqv z x) := by
  show (memW _ _ h).map (!·) = _
  have z := cmp_inl (h := h) hx hy
  have z : memW (.d x) (.d (.list ys)) h = _ := z
  rw [z]
  rfl
/-! places -/
theorem atI_nat {α : Type} (xs : List α) (i : Nat) : atI xs (i : Int) = xs[i]? := by
  unfold atI
  by_cases c : i < xs.length
  · have : ixN xs.length (i : Int) = some i := by
      unfold ixN
      rw [if_pos (by omega), if_pos (by omega)]
      simp
    rw [this]
    rfl
  · have : ixN xs.length (i : Int) = none := by
      unfold ixN
      rw [if_pos (by omega), if_neg (by omega)]
    rw [this, List.getElem?_eq_none (by omega)]
    rfl
theorem atI_last {α : Type} (xs : List α) : atI xs (-1) = xs[xs.length - 1]? := by
  unfold atI
  cases xs with
  | nil => rfl
  | cons x r =>
    have : ixN (x :: r).length (-1) = some ((x :: r).length - 1) := by
      unfold ixN
      rw [if_neg (by omega)]
      simp only [List.length_cons]
      rw [if_pos (by omega)]
      congr 1
      omega
    rw [this]
    rfl
theorem sub_tup {xs : List D} {i : Nat} {x : D} (e : xs[i]? = some x) : subW (.d (.tuple xs)) (.d (.int i)) h = .ok (.d x) h := by
  show (match atI (xs.map W.d) (i : Int) with
    | some w => Res.ok w h
    | none => .no) = _
  rw [atI_nat, List.getElem?_map, e]
  rfl
theorem sub_lst {xs : List D} {i : Nat} {x : D} (e : xs[i]? = some x) : subW (.d (.list xs)) (.d (.int i)) h = .ok (.d x) h := by
  show (match atI (xs.map W.d) (i : Int) with
    | some w => Res.ok w h
    | none => .no) = _
  rw [atI_nat, List.getElem?_map, e]
  rfl
theorem sub_t0 (a : D) (r : List D) : subW (.d (.tuple (a :: r))) (.d (.int 0)) h = .ok (.d a) h := sub_tup (i := 0) rfl
theorem sub_t1 (a b : D) (r : List D) : subW (.d (.tuple (a :: b :: r))) (.d (.int 1)) h = .ok (.d b) h := sub_tup (i := 1) rfl
theorem sub_t2 (a b c : D) (r : List D) : subW (.d (.tuple (a :: b :: c :: r))) (.d (.int 2)) h = .ok (.d c) h := sub_tup (i := 2) rfl
theorem sub_l0 (a : D) (r : List D) : subW (.d (.list (a :: r))) (.d (.int 0)) h = .ok (.d a) h := sub_lst (i := 0) rfl
theorem sub_l1 (a b : D) (r : List D) : subW (.d (.list (a :: b :: r))) (.d (.int 1)) h = .ok (.d b) h := sub_lst (i := 1) rfl
theorem sub_l2 (a b c : D) (r : List D) : subW (.d (.list (a :: b :: c :: r))) (.d (.int 2)) h = .ok (.d c) h := sub_lst (i := 2) rfl
theorem sub_llast {xs : List D} {x : D} (e : xs[xs.length - 1]? = some x) : subW (.d (.list xs)) (.d (.int (-1))) h = .ok (.d x) h := by
  show (match atI (xs.map W.d) (-1) with
    | some w => Res.ok w h
    | none => .no) = _
  rw [atI_last, List.length_map, List.getElem?_map, e]
  rfl
/-! built-ins -/
theorem len_t (xs : List D) : bifW .len m [.d (.tuple xs)] h = .ok (.d (.int xs.length)) h := by
  show rok (.int ((xs.map W.d).length : Nat)) h = _
  rw [List.length_map]
  rfl
theorem len_l (xs : List D) : bifW .len m [.d (.list xs)] h = .ok (.d (.int xs.length)) h := by
  show rok (.int ((xs.map W.d).length : Nat)) h = _
  rw [List.length_map]
  rfl
theorem len_s {s : Str} (l : s.length ≤ lim) : bifW .len m [.d (.str s)] h = .ok (.d (.int s.length)) h := by
  show (if s.length ≤ lim then rok (.int s.length) h else .no) = _
  rw [if_pos l]
  rfl
theorem bools_d : ∀ bs : List Bool, bools ((bs.map PyData.bool).map W.d) = some bs
  | [] => rfl
  | b :: bs => by
    show (bools ((bs.map PyData.bool).map W.d)).map (b :: ·) = _
    rw [bools_d bs]
    rfl
theorem all_l (bs : List Bool) : bifW .all m [.d (.list (bs.map PyData.bool))] h = .ok (.d (.bool (bs.all id))) h := by
  show (match bools ((bs.map PyData.bool).map W.d) with
      | some bs => rok (.bool (bs.all id)) h
      | none => .no) = _
  rw [bools_d]
  rfl
theorem any_l (bs : List Bool) : bifW .any m [.d (.list (bs.map PyData.bool))] h = .ok (.d (.bool (bs.any id))) h := by
  show (match bools ((bs.map PyData.bool).map W.d) with
      | some bs => rok (.bool (bs.any id)) h
      | none => .no) = _
  rw [bools_d]
  rfl
theorem tup_l {xs : List D} (l : xs.length ≤ lim) : bifW .tuple m [.d (.list xs)] h = .ok (.d (.tuple xs)) h := mkt_d l
theorem tup_t {xs : List D} (l : xs.length ≤ lim) : bifW .tuple m [.d (.tuple xs)] h = .ok (.d (.tuple xs)) h := mkt_d l
theorem lst_t {xs : List D} (l : xs.length ≤ lim) : bifW .list false [.d (.tuple xs)] h = .ok (.d (.list xs)) h := mkl_d l
theorem lst_l {xs : List D} (l : xs.length ≤ lim) : bifW .list false [.d (.list xs)] h = .ok (.d (.list xs)) h := mkl_d l
theorem lstm_l {xs : List D} (l : xs.length ≤ lim) : bifW .list true [.d (.list xs)] h = .ok (.r h.length) (h ++ [.lst (xs.map W.d)]) := mkl_m (by rw [List.length_map]; exact l)
theorem srt_l {xs : List D} (c1 : srtB xs = true) (c2 : srtK xs = true) (l : xs.length ≤ lim) : bifW .sorted false [.d (.list xs)] h = .ok (.d (.list (xs.mergeSort (PySem.W.dataLe false id)))) h := by
  show (if srtB xs = true ∧ srtK xs = true ∧ xs.length ≤ lim then mkl false ((xs.mergeSort (PySem.W.dataLe false id)).map W.d) h else .no) = _
  rw [if_pos ⟨c1, c2, l⟩]
  exact mkl_d (by rw [List.length_mergeSort]; exact l)
theorem int_i (i : Int) : bifW .int m [.d (.int i)] h = .ok (.d (.int i)) h := rfl
/-! walks -/
theorem src_l (xs : List D) : srcW (.d (.list xs)) h = .ok (.ws ((xs.map W.d).map .one)) h := rfl
theorem src_t (xs : List D) : srcW (.d (.tuple xs)) h = .ok (.ws ((xs.map W.d).map .one)) h := rfl
theorem rng_1 {j : Int} (l1 : -(lim : Int) ≤ j) (l2 : j ≤ lim) : rngW [.d (.int j)] h = .ok (.ws (rngL 0 j)) h := by
  show (if -(lim : Int) ≤ j ∧ j ≤ lim then Res.ok (Src.ws (rngL 0 j)) h else .no) = _
  rw [if_pos ⟨l1, l2⟩]
theorem rng_n {n : Nat} (l : n ≤ lim) : rngW [.d (.int n)] h = .ok (.ws ((List.range n).map fun i : Nat => .one (.d (.int i)))) h := by
  rw [rng_1 (by omega) (by omega)]
  unfold rngL
  have : ((n : Int) - 0).toNat = n := by omega
  rw [this]
  simp
end
/-! ### calls -/
def CtN (T : Tab) (wf n : Nat) : Ct := ⟨callN T wf (n - 1), mkI T (callN T wf (n - 2)), T.cn, T.sb, T.at_, wf, callN T wf (n - 2)⟩
section
variable {T : Tab} {wf n i : Nat} {fe : FEnt} {ws : List W} {h : Hs}
theorem call_run (hn : 2 ≤ n) (e : T.fns[i]? = some fe) : callN T wf n i ws h = runF (CtN T wf n) fe ws h := by
  obtain ⟨k, rfl⟩ : ∃ k, n = k + 2 := ⟨n - 2, by omega⟩
  show (match T.fns[i]? with
    | some fe => runF ⟨callN T wf (k + 1), mkI T (callN T wf k), T.cn, T.sb, T.at_, wf, callN T wf k⟩ fe ws h
    | none => .no) = _
  rw [e]
  rfl
theorem call_d (hn : 2 ≤ n) (e : T.fns[i]? = some fe) (l : ws.length = fe.ps.length) (hd : ws.all isD = true) : callN T wf n i ws h = home ((evS (CtN T wf n) fe.body (begE fe ws) []).res fe.frz 0) h := by
  rw [call_run hn e]
  unfold runF
  rw [if_pos l, if_pos hd]
theorem call_r (hn : 2 ≤ n) (e : T.fns[i]? = some fe) (l : ws.length = fe.ps.length) (hd : ws.all isD = false) : callN T wf n i ws h = (evS (CtN T wf n) fe.body (begE fe ws) h).res fe.frz h.length := by
  rw [call_run hn e]
  unfold runF
  rw [if_pos l, if_neg (by rw [hd]; exact Bool.false_ne_true)]
end
section
variable {h h' : Hs} {e : Env} {fz : Bool}
/-- a result that is data, of a call on data -/
theorem home_rt (x : D) : home ((Out.rt (.d x) h').res fz 0) h = .ok (.d x) h := by
  show home (leave fz 0 (.d x) h') h = _
  rfl
theorem home_nx : home ((Out.nx e h').res fz 0) h = .ok (.d .none) h := rfl
theorem home_ex (x : Exn) : home ((Out.ex x e h').res fz 0) h = .ex x h := rfl
end
/-! ### walks of comprehensions and loops -/
theorem lcL_pure {α : Type} {f : Itm → Hs → Res (List W)} {g : α → Itm} {r : α → List W} {h : Hs} : ∀ {xs : List α}, (∀ a ∈ xs, f (g a) h = .ok (r a) h) → lcL f (xs.map g) h = .ok (xs.flatMap r) h
  | [], _ => rfl
  | x :: xs, H => by
    show (f (g x) h).bd _ = _
    rw [H x List.mem_cons_self, bd_ok, lcL_pure fun a ha => H a (List.mem_cons_of_mem _ ha), bd_ok]
    rfl
theorem lcL_map {α : Type} {f : Itm → Hs → Res (List W)} {g : α → Itm} {v : α → D} {h : Hs} {xs : List α} (H : ∀ a ∈ xs, f (g a) h = .ok [.d (v a)] h) : lcL f (xs.map g) h = .ok ((xs.map v).map W.d) h := by
  rw [lcL_pure H]
  congr 1
  induction xs with
  | nil => rfl
  | cons x r ih => simp [ih fun a ha => H a (List.mem_cons_of_mem _ ha)]
theorem lcL_filter {α : Type} {f : Itm → Hs → Res (List W)} {g : α → Itm} {c : α → Bool} {v : α → D} {h : Hs} {xs : List α} (H : ∀ a ∈ xs, f (g a) h = .ok (if c a = true then [.d (v a)] else []) h) : lcL f (xs.map g) h = .ok (((xs.filter c).map v).map W.d) h := by
  rw [lcL_pure H]
  congr 1
  induction xs with
  | nil => rfl
  | cons x r ih =>
    rw [List.flatMap_cons, ih fun a ha => H a (List.mem_cons_of_mem _ ha)]
    cases z : c x with
    | false =>
      rw [List.filter_cons_of_neg (by rw [z]; exact Bool.false_ne_true), if_neg (by exact Bool.false_ne_true)]
      rfl
    | true =>
      rw [List.filter_cons_of_pos z, if_pos rfl]
      rfl
section
variable {C : Ct} {e : Env} {h h1 : Hs} {elt : E} {tg : Tg} {it : It} {cs : Oe} {own : List (Str × Nat)} {sc : Scope} {p : Pos}
theorem lc_map {α : Type} (xs : List α) (g : α → Itm) (v : α → D) (hi : evI C it e h = .ok (.ws (xs.map g)) h1) (l : xs.length ≤ lim) (H : ∀ a ∈ xs, lcT C tg cs elt (wipeE e (own.map (·.2))) (g a) h1 = .ok [.d (v a)] h1) :
    evE C (.lc false elt tg it cs own sc p) e h = .ok (.d (.list (xs.map v))) h1 := by
  rw [ev_lc, hi, bd_ok]
  show (lcL _ _ _).bd _ = _
  rw [lcL_map H, bd_ok]
  exact mkl_d (by rw [List.length_map]; exact l)
theorem lc_flat {α : Type} (xs : List α) (g : α → Itm) (v : α → List D) (hi : evI C it e h = .ok (.ws (xs.map g)) h1) (l : (xs.flatMap v).length ≤ lim) {f : Itm → Hs → Res (List W)} (H : ∀ a ∈ xs, f (g a) h1 = .ok ((v a).map W.d) h1) :
    lcS f (.ws (xs.map g)) h1 = .ok ((xs.flatMap v).map W.d) h1 := by
  show lcL _ _ _ = _
  rw [lcL_pure H]
  congr 1
  rw [List.map_flatMap]
theorem lc_filter {α : Type} (xs : List α) (g : α → Itm) (c : α → Bool) (v : α → D) (hi : evI C it e h = .ok (.ws (xs.map g)) h1) (l : xs.length ≤ lim) (H : ∀ a ∈ xs, lcT C tg cs elt (wipeE e (own.map (·.2))) (g a) h1 = .ok (if c a = true then [.d (v a)] else []) h1) :
    evE C (.lc false elt tg it cs own sc p) e h = .ok (.d (.list ((xs.filter c).map v))) h1 := by
  rw [ev_lc, hi, bd_ok]
  show (lcL _ _ _).bd _ = _
  rw [lcL_filter H, bd_ok]
  exact mkl_d (by rw [List.length_map]; exact Nat.le_trans (List.length_filter_le _ _) l)
end
section
variable {α σ : Type} {f : Itm → Env → Hs → Out} {g : α → Itm}
/-- a loop that no turn leaves -/
theorem for_fold {E : σ → Env} {M : σ → Hs} {step : σ → α → σ} : ∀ {xs : List α} {s : σ}, (∀ a ∈ xs, ∀ s, f (g a) (E s) (M s) = .nx (E (step s a)) (M (step s a))) → forL f (xs.map g) (E s) (M s) = .nx (E (xs.foldl step s)) (M (xs.foldl step s))
  | [], s, _ => rfl
  | x :: xs, s, H => by
    show (match f (g x) (E s) (M s) with
      | .nx e1 h1 => forL f (xs.map g) e1 h1
      | .ct e1 h1 => forL f (xs.map g) e1 h1
      | .bk e1 h1 => .nx e1 h1
      | o => o) = _
    rw [H x List.mem_cons_self s]
    exact for_fold fun a ha => H a (List.mem_cons_of_mem _ ha)
/-- a loop by its invariant: pre is what was walked -/
theorem for_inv {I : List α → Env → Hs → Prop} : ∀ (xs pre : List α) {e : Env} {h : Hs}, I pre e h →
    (∀ p a r e h, p ++ a :: r = pre ++ xs → I p e h → ∃ e' h', (f (g a) e h = .nx e' h' ∨ f (g a) e h = .ct e' h') ∧ I (p ++ [a]) e' h') → ∃ e' h', forL f (xs.map g) e h = .nx e' h' ∧ I (pre ++ xs) e' h'
  | [], pre, e, h, i, _ => ⟨e, h, rfl, by rw [List.append_nil]; exact i⟩
  | x :: xs, pre, e, h, i, H => by
    obtain ⟨e1, h1, q, i1⟩ := H pre x xs e h rfl i
    obtain ⟨e2, h2, q2, i2⟩ := for_inv xs (pre ++ [x]) i1 (fun p a r e h z => H p a r e h (by rw [z]; simp))
    refine ⟨e2, h2, ?_, by rw [List.append_assoc] at i2; exact i2⟩
    show (match f (g x) e h with
      | .nx e1 h1 => forL f (xs.map g) e1 h1
      | .ct e1 h1 => forL f (xs.map g) e1 h1
      | .bk e1 h1 => .nx e1 h1
      | o => o) = _
    rcases q with q | q <;> rw [q] <;> exact q2
end
/-- the same, from nothing walked -/
theorem for_inv0 {α : Type} {f : Itm → Env → Hs → Out} {g : α → Itm} (I : List α → Env → Hs → Prop) (xs : List α) {e : Env} {h : Hs} (i : I [] e h)
    (H : ∀ p a r e h, p ++ a :: r = xs → I p e h → ∃ e' h', (f (g a) e h = .nx e' h' ∨ f (g a) e h = .ct e' h') ∧ I (p ++ [a]) e' h') : ∃ e' h', forL f (xs.map g) e h = .nx e' h' ∧ I xs e' h' := by
  obtain ⟨e', h', q, j⟩ := for_inv xs [] i H
  exact ⟨e', h', q, j⟩
theorem forS_ws {f : Itm → Env → Hs → Out} {xs : List Itm} {e : Env} {h : Hs} : forS f (.ws xs) e h = forL f xs e h := rfl
theorem lcS_ws {f : Itm → Hs → Res (List W)} {xs : List Itm} {h : Hs} : lcS f (.ws xs) h = lcL f xs h := rfl
/-! ### the heap: what stands behind a prefix -/
theorem get_at (h l : Hs) (k : Nat) : (h ++ l)[h.length + k]? = l[k]? := by rw [List.getElem?_append_right (by omega)]; congr 1; omega
theorem get_at0 (h l : Hs) : (h ++ l)[h.length]? = l[0]? := get_at h l 0
theorem set_at (h l : Hs) (k : Nat) (o : Ob) : (h ++ l).set (h.length + k) o = h ++ l.set k o := by
  rw [List.set_append_right _ _ (by omega)]
  congr 2
  omega
theorem set_at0 (h l : Hs) (o : Ob) : (h ++ l).set h.length o = h ++ l.set 0 o := set_at h l 0 o
end Rf
namespace Rf
open PySem PySem.Spec PyProof.Rows L2
theorem for_end {α : Type} {f : Itm → Env → Hs → Out} {l : List Itm} {e : Env} {h : Hs} {o : Out} (hq : forL f l e h = o) (xs : List α) (g : α → Itm) (I : List α → Env → Hs → Prop) (hl : l = xs.map g) (i : I [] e h)
    (H : ∀ p a r e h, p ++ a :: r = xs → I p e h → ∃ e' h', (f (g a) e h = .nx e' h' ∨ f (g a) e h = .ct e' h') ∧ I (p ++ [a]) e' h') : ∃ e' h', o = .nx e' h' ∧ I xs e' h' := by
  subst hl
  obtain ⟨e', h', q, j⟩ := for_inv0 I xs i H
  exact ⟨e', h', by rw [← hq, q], j⟩
section
variable {C : Ct} {e : Env} {h h1 : Hs} {elt : E} {tg tg' : Tg} {it it' : It} {cs cs' : Oe} {own : List (Str × Nat)} {vs' : List Nat} {sc : Scope} {p : Pos}
theorem lc2_map {α : Type} (xs : List α) (g : α → Itm) (v : α → List D) (hi : evI C it e h = .ok (.ws (xs.map g)) h1) (l : (xs.flatMap v).length ≤ lim) (H : ∀ a ∈ xs, lcT2 C tg cs tg' it' cs' elt (wipeE e (own.map (·.2))) vs' (g a) h1 = .ok ((v a).map W.d) h1) :
    evE C (.lc2 false elt tg it cs tg' it' cs' own vs' sc p) e h = .ok (.d (.list (xs.flatMap v))) h1 := by
  rw [ev_lc2, hi, bd_ok, lc_flat (C := C) (it := it) (e := e) (h := h) xs g v hi l H, bd_ok]
  exact mkl_d l
theorem lcS_map {α : Type} {f : Itm → Hs → Res (List W)} (xs : List α) (g : α → Itm) (v : α → D) (H : ∀ a ∈ xs, f (g a) h = .ok [.d (v a)] h) : lcL f (xs.map g) h = .ok ((xs.map v).map W.d) h := lcL_map H
end
end Rf
namespace Rf
open PySem PySem.Spec PyProof.Rows L2
section
variable {h : Hs} {t : Ty} {T : Tab} {wf n : Nat}
theorem isi_t (xs : List D) : isiW (.d (.tuple xs)) t h = some (isiB (.tuple xs) t) := rfl
theorem isi_l (xs : List D) : isiW (.d (.list xs)) t h = some (isiB (.list xs) t) := rfl
theorem isi_i (i : Int) : isiW (.d (.int i)) t h = some (isiB (.int i) t) := rfl
theorem isi_b (b : Bool) : isiW (.d (.bool b)) t h = some (isiB (.bool b) t) := rfl
theorem isi_s (s : Str) : isiW (.d (.str s)) t h = some (isiB (.str s) t) := rfl
theorem isi_n : isiW (.d .none) t h = some (isiB .none t) := rfl
theorem CtN_fn : (CtN T wf n).fn = callN T wf (n - 1) := rfl
theorem CtN_new : (CtN T wf n).new = mkI T (callN T wf (n - 2)) := rfl
theorem CtN_cn : (CtN T wf n).cn = T.cn := rfl
theorem CtN_sub : (CtN T wf n).sub = T.sb := rfl
theorem CtN_att : (CtN T wf n).att = T.at_ := rfl
theorem CtN_wf : (CtN T wf n).wf = wf := rfl
theorem CtN_sp : (CtN T wf n).sp = callN T wf (n - 2) := rfl
theorem isi_tt (xs : List D) : isiB (.tuple xs) .tuple = true := rfl
end
theorem wd_map {α : Type} (f : α → D) (xs : List α) : ((xs.map f).map W.d).map Itm.one = xs.map fun a => .one (.d (f a)) := by rw [List.map_map, List.map_map]; rfl
theorem lim_of {k : Nat} (l : k ≤ 100000) : k ≤ lim := Nat.le_trans l (by decide)
theorem all_true {α : Type} (xs : List α) (f : α → Bool) (H : ∀ x ∈ xs, f x = true) : (xs.map f).all id = true := by
  rw [List.all_map]
  exact List.all_eq_true.mpr H
theorem map_bool {α : Type} (xs : List α) (f : α → Bool) : (xs.map fun a => PyData.bool (f a)) = (xs.map f).map PyData.bool := by rw [List.map_map]; rfl
end Rf
namespace Rf
open PySem PySem.Spec PyProof.Rows L2
section
variable {h : Hs} {m : Bool}
theorem sub_ti {xs : List D} {j : Int} (i : Nat) {x : D} (e : xs[i]? = some x) (hj : j = (i : Int)) : subW (.d (.tuple xs)) (.d (.int j)) h = .ok (.d x) h := by
  subst hj
  exact sub_tup e
theorem sub_li {xs : List D} {j : Int} (i : Nat) {x : D} (e : xs[i]? = some x) (hj : j = (i : Int)) : subW (.d (.list xs)) (.d (.int j)) h = .ok (.d x) h := by
  subst hj
  exact sub_lst e
theorem zipW_t (xs ys : List D) : zipW (.d (.tuple xs)) (.d (.tuple ys)) h = .ok (.ws (List.zipWith .two (xs.map W.d) (ys.map W.d))) h := rfl
theorem zipW_l (xs ys : List D) : zipW (.d (.list xs)) (.d (.list ys)) h = .ok (.ws (List.zipWith .two (xs.map W.d) (ys.map W.d))) h := rfl
theorem zip_wd {α β : Type} (f : α → D) (g : β → D) : ∀ (a : List α) (b : List β), List.zipWith Itm.two ((a.map f).map W.d) ((b.map g).map W.d) = (a.zip b).map fun p => .two (.d (f p.1)) (.d (g p.2))
  | [], _ => by simp
  | _ :: _, [] => by simp
  | x :: xs, y :: ys => by
    show Itm.two _ _ :: List.zipWith Itm.two ((xs.map f).map W.d) ((ys.map g).map W.d) = _
    rw [zip_wd f g xs ys]
    rfl
theorem enuW_l (xs : List D) : enuW (.d (.list xs)) h = .ok (.ws (enuL (xs.map W.d))) h := rfl
theorem rng_i {j : Int} (n : Nat) (l : n ≤ lim) (hj : j.toNat = n) (hl : -(lim : Int) ≤ j) : rngW [.d (.int j)] h = .ok (.ws ((List.range n).map fun i : Nat => .one (.d (.int i)))) h := by
  rw [rng_1 hl (by omega)]
  unfold rngL
  have : (j - 0).toNat = n := by omega
  rw [this]
  simp
end
end Rf
namespace Rf
open PySem PySem.Spec PyProof.Rows L2
/-- the loop goes on, to what P tells -/
def NxP (P : Env → Hs → Prop) (o : Out) : Prop := ∃ e' h', (o = .nx e' h' ∨ o = .ct e' h') ∧ P e' h'
theorem NxP.nx {P : Env → Hs → Prop} {e : Env} {h : Hs} (p : P e h) : NxP P (.nx e h) := ⟨e, h, .inl rfl, p⟩
theorem NxP.ct {P : Env → Hs → Prop} {e : Env} {h : Hs} (p : P e h) : NxP P (.ct e h) := ⟨e, h, .inr rfl, p⟩
theorem for_endP {α : Type} {f : Itm → Env → Hs → Out} {l : List Itm} {e : Env} {h : Hs} {o : Out} (hq : forL f l e h = o) (xs : List α) (g : α → Itm) (I : List α → Env → Hs → Prop) (hl : l = xs.map g) (i : I [] e h)
    (H : ∀ p a r e h, p ++ a :: r = xs → I p e h → ∀ P, P = I (p ++ [a]) → NxP P (f (g a) e h)) : ∃ e' h', o = .nx e' h' ∧ I xs e' h' :=
  for_end hq xs g I hl i fun p a r e h z hi => H p a r e h z hi _ rfl
end Rf
namespace Rf
open PySem PySem.Spec PyProof.Rows L2
section
variable {h : Hs} {s : Nat} {a b c v : W} {r : List W}
theorem subr_0 (e : h[s]? = some (.lst (a :: r))) : subW (.r s) (.d (.int 0)) h = .ok a h := by
  unfold subW dq sq
  simp only [e]
  rw [show atI (a :: r) 0 = some a from atI_nat (a :: r) 0]
theorem subr_1 (e : h[s]? = some (.lst (a :: b :: r))) : subW (.r s) (.d (.int 1)) h = .ok b h := by
  unfold subW dq sq
  simp only [e]
  rw [show atI (a :: b :: r) 1 = some b from atI_nat (a :: b :: r) 1]
theorem subr_2 (e : h[s]? = some (.lst (a :: b :: c :: r))) : subW (.r s) (.d (.int 2)) h = .ok c h := by
  unfold subW dq sq
  simp only [e]
  rw [show atI (a :: b :: c :: r) 2 = some c from atI_nat (a :: b :: c :: r) 2]
theorem setr_0 (e : h[s]? = some (.lst (a :: r))) : setIx (.r s) (.d (.int 0)) v h = some (h.set s (.lst (v :: r))) := by
  unfold setIx
  simp only [e]
  rw [if_pos ⟨by omega, by simp⟩]
  rfl
theorem setr_1 (e : h[s]? = some (.lst (a :: b :: r))) : setIx (.r s) (.d (.int 1)) v h = some (h.set s (.lst (a :: v :: r))) := by
  unfold setIx
  simp only [e]
  rw [if_pos ⟨by omega, by simp⟩]
  rfl
theorem setr_2 (e : h[s]? = some (.lst (a :: b :: c :: r))) : setIx (.r s) (.d (.int 2)) v h = some (h.set s (.lst (a :: b :: v :: r))) := by
  unfold setIx
  simp only [e]
  rw [if_pos ⟨by omega, by simp⟩]
  rfl
/-- nothing hangs on what is not there -/
def Cl (h : Hs) : Prop := h.all (Ob.ltb h.length) = true
theorem trim_same {n : Nat} (e : h.length = n) : trim n h = h := by
  unfold trim
  split
  · rw [← e, List.take_length]
  · rfl
theorem trim_app {t : Hs} (c : Cl h) : trim h.length (h ++ t) = h := by
  unfold trim clean
  rw [List.take_left, if_pos (show h.all (Ob.ltb h.length) = true from c)]
theorem res_d (x : D) (n : Nat) (fz : Bool) : (Out.rt (.d x) h).res fz n = .ok (.d x) (trim n h) := rfl
theorem res_nx (e : Env) (n : Nat) (fz : Bool) : (Out.nx e h).res fz n = .ok (.d .none) (trim n h) := rfl
theorem res_ex (x : Exn) (e : Env) (n : Nat) (fz : Bool) : (Out.ex x e h).res fz n = .ex x (trim n h) := rfl
end
theorem kind_l {h : Hs} {a : Nat} {ws : List W} (e : h[a]? = some (.lst ws)) : kindW (.r a) h = 1 := by
  unfold kindW
  simp only [e]
/-- an append to a list in the heap -/
theorem mth_app {h : Hs} {s : Nat} {ws us : List W} {v : W} {h' : Hs} (e : h[s]? = some (.lst us)) (e' : h'[s]? = some (.lst ws)) (l : ws.length < lim) : mthA .append (.r s) h (.ok [v] h') = .ok (.d .none) (h'.set s (.lst (ws ++ [v]))) := by
  unfold mthA
  rw [kind_l e, if_pos (show mtB .append 1 = true from rfl), bd_ok, kind_l e', if_pos rfl]
  unfold mthW
  simp only [e', l, if_true]
theorem mth_pop1 {h : Hs} {s : Nat} {ws us : List W} {i : Nat} {v : W} {h' : Hs} (e : h[s]? = some (.lst us)) (e' : h'[s]? = some (.lst ws)) (l : ws.length ≤ lim) (ev : ws[i]? = some v) : mthA .pop1 (.r s) h (.ok [.d (.int i)] h') = .ok v (h'.set s (.lst (ws.eraseIdx i))) := by
  unfold mthA
  rw [kind_l e, if_pos (show mtB .pop1 1 = true from rfl), bd_ok, kind_l e', if_pos rfl]
  unfold mthW
  simp only [e', l, and_true]
  rw [if_pos (by omega)]
  have : ((i : Int)).toNat = i := by omega
  rw [this, ev]
theorem mth_pop0 {h : Hs} {s : Nat} {ws : List W} {v : W} (e : h[s]? = some (.lst (ws ++ [v]))) : mthA .pop0 (.r s) h (.ok [] h) = .ok v (h.set s (.lst ws)) := by
  unfold mthA
  rw [kind_l e, if_pos (show mtB .pop0 1 = true from rfl), bd_ok, kind_l e, if_pos rfl]
  unfold mthW
  simp only [e]
  have : (ws ++ [v])[(ws ++ [v]).length - 1]? = some v := by
    rw [List.length_append, List.length_cons, List.length_nil, List.getElem?_append_right (by omega)]
    simp
  rw [this]
  simp
theorem mth_index {h : Hs} {xs : List D} {x : D} {j : Nat} (h1 : shp (.list xs) = true) (h2 : shp x = true) (e : fndX xs x = some j) : mthA .index (.d (.list xs)) h (.ok [.d x] h) = .ok (.d (.int j)) h := by
  unfold mthA
  rw [if_pos (show mtB .index (kindW (.d (.list xs)) h) = true from rfl), bd_ok, if_pos rfl]
  show (if shp (.list xs) = true ∧ shp x = true then (match fndX xs x with
        | some j => rok (.int (j : Nat)) h
        | none => .no) else .no) = _
  rw [if_pos ⟨h1, h2⟩, e]
  rfl
theorem mth_indext {h : Hs} {xs : List D} {x : D} {j : Nat} (h1 : shp (.tuple xs) = true) (h2 : shp x = true) (e : fndX xs x = some j) : mthA .index (.d (.tuple xs)) h (.ok [.d x] h) = .ok (.d (.int j)) h := by
  unfold mthA
  rw [if_pos (show mtB .index (kindW (.d (.tuple xs)) h) = true from rfl), bd_ok, if_pos rfl]
  show (if shp (.tuple xs) = true ∧ shp x = true then (match fndX xs x with
        | some j => rok (.int (j : Nat)) h
        | none => .no) else .no) = _
  rw [if_pos ⟨h1, h2⟩, e]
  rfl
/-- a comprehension whose turns change what M tells -/
theorem lcL_ex {α β σ : Type} {f : Itm → Hs → Res (List W)} {g : α → Itm} {M : σ → Hs} (P : α → β → Prop) (enc : β → D) : ∀ (xs : List α), (∀ a ∈ xs, ∀ q, ∃ v q', P a v ∧ f (g a) (M q) = .ok [.d (enc v)] (M q')) → ∀ q, ∃ (vs : List β) (q' : σ), vs.length = xs.length ∧ (∀ v ∈ vs, ∃ a ∈ xs, P a v) ∧ lcL f (xs.map g) (M q) = .ok ((vs.map enc).map W.d) (M q')
  | [], _, q => ⟨[], q, rfl, (fun _ h => by cases h), rfl⟩
  | a :: xs, H, q => by
    obtain ⟨v, q1, p1, e1⟩ := H a List.mem_cons_self q
    obtain ⟨vs, q2, l, p2, e2⟩ := lcL_ex P enc xs (fun b hb => H b (List.mem_cons_of_mem _ hb)) q1
    refine ⟨v :: vs, q2, by simp [l], fun w hw => ?_, ?_⟩
    · rcases List.mem_cons.mp hw with rfl | hw
      · exact ⟨a, List.mem_cons_self, p1⟩
      · obtain ⟨b, hb, p⟩ := p2 w hw
        exact ⟨b, List.mem_cons_of_mem _ hb, p⟩
    · show (f (g a) (M q)).bd _ = _
      rw [e1, bd_ok, e2, bd_ok]
      rfl
theorem lc_ex {C : Ct} {e : Env} {h : Hs} {elt : E} {tg : Tg} {it : It} {cs : Oe} {own : List (Str × Nat)} {sc : Scope} {p : Pos} {α β σ : Type} (M : σ → Hs) (q : σ) (xs : List α) (g : α → Itm) (P : α → β → Prop) (enc : β → D) (hi : evI C it e h = .ok (.ws (xs.map g)) (M q)) (l : xs.length ≤ lim)
    (H : ∀ a ∈ xs, ∀ q, ∃ v q', P a v ∧ lcT C tg cs elt (wipeE e (own.map (·.2))) (g a) (M q) = .ok [.d (enc v)] (M q')) : ∃ (vs : List β) (q' : σ), vs.length = xs.length ∧ (∀ v ∈ vs, ∃ a ∈ xs, P a v) ∧ evE C (.lc false elt tg it cs own sc p) e h = .ok (.d (.list (vs.map enc))) (M q') := by
  obtain ⟨vs, q', l1, p1, e1⟩ := lcL_ex P enc xs H q
  refine ⟨vs, q', l1, p1, ?_⟩
  rw [ev_lc, hi, bd_ok]
  show (lcL _ _ _).bd _ = _
  rw [e1, bd_ok]
  exact mkl_d (by rw [List.length_map, l1]; exact l)
end Rf
namespace Rf
open PySem PySem.Spec PyProof.Rows L2
theorem lc_exE {C : Ct} {e : Env} {h : Hs} {elt : E} {tg : Tg} {it : It} {cs : Oe} {own : List (Str × Nat)} {sc : Scope} {p : Pos} {rr : Res W} (hx : evE C (.lc false elt tg it cs own sc p) e h = rr) {α β σ : Type} (M : σ → Hs) (q : σ) (xs : List α) (g : α → Itm) (P : α → β → Prop) (enc : β → D) (hi : evI C it e h = .ok (.ws (xs.map g)) (M q)) (l : xs.length ≤ lim)
    (H : ∀ a ∈ xs, ∀ q, ∃ v q', P a v ∧ lcT C tg cs elt (wipeE e (own.map (·.2))) (g a) (M q) = .ok [.d (enc v)] (M q')) : ∃ (vs : List β) (q' : σ), vs.length = xs.length ∧ (∀ v ∈ vs, ∃ a ∈ xs, P a v) ∧ rr = .ok (.d (.list (vs.map enc))) (M q') := by
  obtain ⟨vs, q', h1, h2, h3⟩ := lc_ex (p := p) (sc := sc) (own := own) M q xs g P enc hi l H
  exact ⟨vs, q', h1, h2, by rw [← hx, h3]⟩
end Rf
namespace Rf
open PySem PySem.Spec PyProof.Rows L2
theorem ordW_n (us : List W) (zs : List W) : ordW us zs [] = us := by
  unfold ordW
  rw [List.filterMap_nil, List.append_nil]
theorem ordW_01 (a : W) : ordW [] [a] [0] = [a] := rfl
theorem ordW_02 (a b : W) : ordW [] [a, b] [0, 1] = [a, b] := rfl
theorem ordW_11 (x a : W) : ordW [x] [a] [0] = [x, a] := rfl
theorem mclA_i {c m : Str} {h : Hs} {a : Nat} {fs : List (Str × W)} {rr : Nat → Res W} (e : h[a]? = some (.ins c fs)) (l : fs.lookup m = none) : mclA c m (.r a) h rr = rr a := by
  unfold mclA
  simp only [e, l, and_self, if_true]
theorem fld_i {C : Ct} {c f : Str} {h : Hs} {a : Nat} {fs : List (Str × W)} {v : W} (e : h[a]? = some (.ins c fs)) (ha : C.att c f = true) (l : fs.lookup f = some v) : fldW C f (.r a) h = .ok v h := by
  unfold fldW
  simp only [e, ha, if_true, l]
  rfl
theorem setFd_i {att : Str → Str → Bool} {c f : Str} {h : Hs} {a : Nat} {fs : List (Str × W)} {v : W} (e : h[a]? = some (.ins c fs)) (ha : att c f = true) (l : fs.length < 900) : setFd att (.r a) f v h = some (h.set a (.ins c (putF fs f v))) := by
  unfold setFd
  simp only [e, ha, l, and_self, if_true]
end Rf
namespace Rf
theorem home_ok (x : D) (h' h : Hs) : home (.ok (.d x) h') h = .ok (.d x) h := rfl
theorem home_exr (x : Exn) (h' h : Hs) : home (.ex x h') h = .ex x h := rfl
end Rf
namespace Rf
open PySem PySem.Spec PyProof.Rows L2
section
variable {h : Hs}
theorem cut_to (xs : List W) (i : Nat) : cutW xs none (some (i : Int)) = xs.take i := by
  unfold cutW
  rw [HT.sIx_none, HT.sIx_nat, List.drop_zero, Nat.sub_zero]
  by_cases c : i ≤ xs.length
  · rw [Nat.min_eq_left c]
  · rw [Nat.min_eq_right (by omega), List.take_length, List.take_of_length_le (by omega)]
theorem cut_from (xs : List W) (i : Nat) : cutW xs (some (i : Int)) none = xs.drop i := by
  unfold cutW
  rw [HT.sIx_none, HT.sIx_nat]
  by_cases c : i ≤ xs.length
  · rw [Nat.min_eq_left c]
    exact List.take_of_length_le (by rw [List.length_drop]; exact Nat.le_refl _)
  · rw [Nat.min_eq_right (by omega), List.drop_length, List.drop_eq_nil_of_le (by omega), List.take_nil]
theorem cut_last (xs : List W) : cutW xs none (some (-1)) = xs.dropLast := by
  unfold cutW
  rw [HT.sIx_none, List.drop_zero, Nat.sub_zero, List.dropLast_eq_take]
  congr 1
  show (if (-1 : Int) < 0 then ((-1 : Int) + (xs.length : Int)).toNat else min (-1 : Int).toNat xs.length) = _
  rw [if_pos (by decide)]
  omega
theorem slc_tto {xs : List D} (i : Nat) (l : xs.length ≤ lim) : slcW false (.d (.tuple xs)) none (some (i : Int)) h = .ok (.d (.tuple (xs.take i))) h := by
  show mkt (cutW (xs.map W.d) none (some (i : Int))) h = _
  rw [cut_to, ← List.map_take]
  exact mkt_d (Nat.le_trans (by rw [List.length_take]; omega) l)
theorem slc_tfrom {xs : List D} (j : Int) (i : Nat) (hj : j = (i : Int)) (l : xs.length ≤ lim) : slcW false (.d (.tuple xs)) (some j) none h = .ok (.d (.tuple (xs.drop i))) h := by
  subst hj
  show mkt (cutW (xs.map W.d) (some (i : Int)) none) h = _
  rw [cut_from, ← List.map_drop]
  exact mkt_d (Nat.le_trans (by rw [List.length_drop]; omega) l)
theorem slc_lto {xs : List D} (i : Nat) (l : xs.length ≤ lim) : slcW false (.d (.list xs)) none (some (i : Int)) h = .ok (.d (.list (xs.take i))) h := by
  show mkl false (cutW (xs.map W.d) none (some (i : Int))) h = _
  rw [cut_to, ← List.map_take]
  exact mkl_d (Nat.le_trans (by rw [List.length_take]; omega) l)
theorem slc_lfrom {xs : List D} (j : Int) (i : Nat) (hj : j = (i : Int)) (l : xs.length ≤ lim) : slcW false (.d (.list xs)) (some j) none h = .ok (.d (.list (xs.drop i))) h := by
  subst hj
  show mkl false (cutW (xs.map W.d) (some (i : Int)) none) h = _
  rw [cut_from, ← List.map_drop]
  exact mkl_d (Nat.le_trans (by rw [List.length_drop]; omega) l)
theorem slc_llast {xs : List D} (l : xs.length ≤ lim) : slcW false (.d (.list xs)) none (some (-1)) h = .ok (.d (.list xs.dropLast)) h := by
  show mkl false (cutW (xs.map W.d) none (some (-1))) h = _
  rw [cut_last, ← List.map_dropLast]
  exact mkl_d (Nat.le_trans (by rw [List.length_dropLast]; omega) l)
theorem truR {a : Nat} {ws : List W} (e : h[a]? = some (.lst ws)) : tru (.r a) h = some (!ws.isEmpty) := by
  unfold tru sq
  simp only [e]
end
end Rf
/-! More steps. -/
namespace Rf
open PySem PySem.Spec PyProof.Rows L2
/-- a loop's turn, then the rest -/
def goOn (o : Out) (k : Env → Hs → Out) : Out := match o with
  | .nx e h => k e h
  | .ct e h => k e h
  | .bk e h => .nx e h
  | o => o
theorem forL_nil (f : Itm → Env → Hs → Out) (e : Env) (h : Hs) : forL f [] e h = .nx e h := rfl
theorem forL_cons (f : Itm → Env → Hs → Out) (x : Itm) (r : List Itm) (e : Env) (h : Hs) : forL f (x :: r) e h = goOn (f x e h) (forL f r) := by
  show (match f x e h with
    | .nx e1 h1 => forL f r e1 h1
    | .ct e1 h1 => forL f r e1 h1
    | .bk e1 h1 => .nx e1 h1
    | o => o) = _
  unfold goOn
  cases f x e h <;> rfl
theorem goOn_nx (e : Env) (h : Hs) (k : Env → Hs → Out) : goOn (.nx e h) k = k e h := rfl
theorem ltb_mono {n m : Nat} (l : n ≤ m) {w : W} (h : W.ltb n w = true) : W.ltb m w = true := by
  cases w with
  | r k =>
    have : k < n := of_decide_eq_true h
    exact decide_eq_true (by omega)
  | _ => rfl
theorem oltb_mono {n m : Nat} (l : n ≤ m) {o : Ob} (h : Ob.ltb n o = true) : Ob.ltb m o = true := by
  cases o with
  | lst ws =>
    unfold Ob.ltb at *
    rw [List.all_eq_true] at *
    exact fun w hw => ltb_mono l (h w hw)
  | dct b kvs =>
    unfold Ob.ltb at *
    rw [List.all_eq_true] at *
    exact fun w hw => ltb_mono l (h w hw)
  | ins c fs =>
    unfold Ob.ltb at *
    rw [List.all_eq_true] at *
    exact fun w hw => ltb_mono l (h w hw)
theorem Cl.app {h t : Hs} (c : Cl h) (ht : ∀ o ∈ t, Ob.ltb (h.length + t.length) o = true) : Cl (h ++ t) := by
  unfold Cl at *
  rw [List.all_append, Bool.and_eq_true, List.length_append]
  rw [List.all_eq_true] at c
  exact ⟨List.all_eq_true.mpr fun o ho => oltb_mono (by omega) (c o ho), List.all_eq_true.mpr ht⟩
theorem ltb_lst (n : Nat) (xs : List D) : Ob.ltb n (.lst (xs.map W.d)) = true := by
  show (xs.map W.d).all (W.ltb n) = true
  rw [List.all_map, List.all_eq_true]
  exact fun _ _ => rfl
theorem cmp_eqr {h : Hs} {n : Nat} {xs : List D} {y : D} (e : h[n]? = some (.lst (xs.map W.d))) (h1 : shp (.list xs) = true) (h2 : shp y = true) : cmpB .Eq (.r n) (.d y) h = some (PyData.eqv (.list xs) y) := by
  have z : vw (.r n) h = some (.list xs) := by
    unfold vw
    simp only [e, allD_d]
    rfl
  unfold cmpB
  simp only [z]
  show (if shp (.list xs) = true ∧ shp y = true then some (PyData.eqv (.list xs) y) else none) = _
  rw [if_pos ⟨h1, h2⟩]
/-- a comprehension whose turns change what M tells, each value by its member -/
theorem lcL_ex2 {α β σ : Type} {f : Itm → Hs → Res (List W)} {g : α → Itm} {M : σ → Hs} (π : β → α) (Q : β → Prop) (enc : β → D) : ∀ (xs : List α), (∀ a ∈ xs, ∀ q, ∃ v q', π v = a ∧ Q v ∧ f (g a) (M q) = .ok [.d (enc v)] (M q')) → ∀ q, ∃ (vs : List β) (q' : σ), vs.map π = xs ∧ (∀ v ∈ vs, Q v) ∧ lcL f (xs.map g) (M q) = .ok ((vs.map enc).map W.d) (M q')
  | [], _, q => ⟨[], q, rfl, (fun _ h => by cases h), rfl⟩
  | a :: xs, H, q => by
    obtain ⟨v, q1, p0, p1, e1⟩ := H a List.mem_cons_self q
    obtain ⟨vs, q2, l, p2, e2⟩ := lcL_ex2 π Q enc xs (fun b hb => H b (List.mem_cons_of_mem _ hb)) q1
    refine ⟨v :: vs, q2, by rw [List.map_cons, p0, l], fun w hw => ?_, ?_⟩
    · rcases List.mem_cons.mp hw with rfl | hw
      · exact p1
      · exact p2 w hw
    · show (f (g a) (M q)).bd _ = _
      rw [e1, bd_ok, e2, bd_ok]
      rfl
theorem lc_exE2 {C : Ct} {e : Env} {h : Hs} {elt : E} {tg : Tg} {it : It} {cs : Oe} {own : List (Str × Nat)} {sc : Scope} {p : Pos} {rr : Res W} (hx : evE C (.lc false elt tg it cs own sc p) e h = rr) {α β σ : Type} (M : σ → Hs) (q : σ) (xs : List α) (g : α → Itm) (π : β → α) (Q : β → Prop) (enc : β → D) (hi : evI C it e h = .ok (.ws (xs.map g)) (M q)) (l : xs.length ≤ lim)
    (H : ∀ a ∈ xs, ∀ q, ∃ v q', π v = a ∧ Q v ∧ lcT C tg cs elt (wipeE e (own.map (·.2))) (g a) (M q) = .ok [.d (enc v)] (M q')) : ∃ (vs : List β) (q' : σ), vs.map π = xs ∧ (∀ v ∈ vs, Q v) ∧ rr = .ok (.d (.list (vs.map enc))) (M q') := by
  obtain ⟨vs, q', l1, p1, e1⟩ := lcL_ex2 π Q enc xs H q
  refine ⟨vs, q', l1, p1, ?_⟩
  rw [← hx, ev_lc, hi, bd_ok]
  show (lcL _ _ _).bd _ = _
  rw [e1, bd_ok]
  exact mkl_d (by rw [List.length_map]; have := congrArg List.length l1; rw [List.length_map] at this; omega)
end Rf
/-! Groups of indexes by equal members: as a fold, and as a dict of lists in the heap. -/
namespace Rf
open PySem PySem.Spec PyProof.Rows L2
/-- a tuple of numbers -/
def N (xs : List Nat) : D := .tuple (xs.map fun k : Nat => .int k)
def addG : List (D × List Nat) → D → Nat → List (D × List Nat)
  | [], key, k => [(key, [k])]
  | g :: r, key, k => if PyData.eqv g.1 key = true then (g.1, g.2 ++ [k]) :: r else g :: addG r key k
def grp (told : List D) : List (D × List Nat) := told.zipIdx.foldl (fun st p => addG st p.1 p.2) []
def srt (xs : List D) : List D := xs.mergeSort (PySem.W.dataLe false id)
def clsD (told : List D) : D := .tuple (srt ((grp told).map fun g => N g.2))
structure GR (st : List (D × Nat × List Nat)) (h : Hs) : Prop where
  d : h[0]? = some (.dct false (st.map fun g => (g.1, W.r g.2.1)))
  l : ∀ g ∈ st, h[g.2.1]? = some (.lst (g.2.2.map fun k : Nat => W.d (.int k)))
  lo : ∀ g ∈ st, 1 ≤ g.2.1
  nd : (st.map fun g => g.2.1).Nodup
def strp (st : List (D × Nat × List Nat)) : List (D × List Nat) := st.map fun g => (g.1, g.2.2)
theorem find_cases (st : List (D × Nat × List Nat)) (key : D) : (∀ g ∈ st, PyData.eqv g.1 key = false) ∨ ∃ p g r, st = p ++ g :: r ∧ (∀ x ∈ p, PyData.eqv x.1 key = false) ∧ PyData.eqv g.1 key = true := by
  induction st with
  | nil => exact .inl fun g h => by cases h
  | cons g r ih =>
    cases z : PyData.eqv g.1 key with
    | true => exact .inr ⟨[], g, r, rfl, (fun x h => by cases h), z⟩
    | false =>
      rcases ih with ih | ⟨p, g', r', rfl, h1, h2⟩
      · refine .inl fun x hx => ?_
        rcases List.mem_cons.mp hx with rfl | hx
        · exact z
        · exact ih x hx
      · refine .inr ⟨g :: p, g', r', rfl, fun x hx => ?_, h2⟩
        rcases List.mem_cons.mp hx with rfl | hx
        · exact z
        · exact h1 x hx
theorem look_none {α : Type} {kvs : List (D × α)} {key : D} (h : ∀ g ∈ kvs, PyData.eqv g.1 key = false) : look kvs key = none := by
  unfold look
  rw [List.find?_eq_none.mpr fun x hx => by rw [h x hx]; exact Bool.false_ne_true]
  rfl
theorem look_some {α : Type} {p r : List (D × α)} {g : D × α} {key : D} (h : ∀ x ∈ p, PyData.eqv x.1 key = false) (e : PyData.eqv g.1 key = true) : look (p ++ g :: r) key = some g.2 := by
  unfold look
  rw [List.find?_append, List.find?_eq_none.mpr fun x hx => by rw [h x hx]; exact Bool.false_ne_true, List.find?_cons_of_pos (p := fun kv : D × α => PyData.eqv kv.1 key) e]
  rfl
theorem put_none {α : Type} {kvs : List (D × α)} {key : D} {v : α} (h : ∀ g ∈ kvs, PyData.eqv g.1 key = false) : put kvs key v = kvs ++ [(key, v)] := by
  induction kvs with
  | nil => rfl
  | cons g r ih =>
    unfold put
    rw [if_neg (by rw [h g List.mem_cons_self]; exact Bool.false_ne_true), ih fun x hx => h x (List.mem_cons_of_mem _ hx)]
    rfl
theorem put_some {α : Type} {p r : List (D × α)} {g : D × α} {key : D} {v : α} (h : ∀ x ∈ p, PyData.eqv x.1 key = false) (e : PyData.eqv g.1 key = true) : put (p ++ g :: r) key v = p ++ (g.1, v) :: r := by
  induction p with
  | nil =>
    show put (g :: r) key v = _
    unfold put
    rw [if_pos e]
    rfl
  | cons x p ih =>
    show put (x :: (p ++ g :: r)) key v = _
    unfold put
    rw [if_neg (by rw [h x List.mem_cons_self]; exact Bool.false_ne_true), ih fun y hy => h y (List.mem_cons_of_mem _ hy)]
    rfl
theorem addG_none {st : List (D × List Nat)} {key : D} {k : Nat} (h : ∀ g ∈ st, PyData.eqv g.1 key = false) : addG st key k = st ++ [(key, [k])] := by
  induction st with
  | nil => rfl
  | cons g r ih =>
    unfold addG
    rw [if_neg (by rw [h g List.mem_cons_self]; exact Bool.false_ne_true), ih fun x hx => h x (List.mem_cons_of_mem _ hx)]
    rfl
theorem addG_some {p r : List (D × List Nat)} {g : D × List Nat} {key : D} {k : Nat} (h : ∀ x ∈ p, PyData.eqv x.1 key = false) (e : PyData.eqv g.1 key = true) : addG (p ++ g :: r) key k = p ++ (g.1, g.2 ++ [k]) :: r := by
  induction p with
  | nil =>
    show addG (g :: r) key k = _
    unfold addG
    rw [if_pos e]
    rfl
  | cons x p ih =>
    show addG (x :: (p ++ g :: r)) key k = _
    unfold addG
    rw [if_neg (by rw [h x List.mem_cons_self]; exact Bool.false_ne_true), ih fun y hy => h y (List.mem_cons_of_mem _ hy)]
    rfl
theorem nks_none {h : Hs} {o : Ob} : kindW (.r 0) (.dct false [] :: h) = 3 := rfl
theorem kind_d {h : Hs} {kvs : List (D × W)} (e : h[0]? = some (.dct false kvs)) : kindW (.r 0) h = 3 := by
  unfold kindW
  simp only [e]
theorem get_app {h t : Hs} {a : Nat} {o : Ob} (e : h[a]? = some o) : (h ++ t)[a]? = some o := by
  rw [List.getElem?_append_left (List.getElem?_eq_some_iff.mp e).1]
  exact e
/-- groups.setdefault(key, []).append(k) -/
theorem setdef {st : List (D × Nat × List Nat)} {h : Hs} {key : D} {k : Nat} (R : GR st h) (hk : keyT key = true) (hl : st.length < lim) (hp : ∀ g ∈ st, g.2.2.length < lim)
    {rr : Res W} (hx : ((mthA .setdefault (.r 0) h (.ok [.d key, .r h.length] (h ++ [.lst []]))).bd fun w h1 => mthA .append w h1 (.ok [.d (.int k)] h1)) = rr) :
    ∃ st' h', rr = .ok (.d .none) h' ∧ GR st' h' ∧ strp st' = addG (strp st) key k ∧ st'.length ≤ st.length + 1 ∧ (∀ m, (∀ g ∈ st, g.2.2.length ≤ m) → ∀ g ∈ st', g.2.2.length ≤ m + 1) := by
  have e0 := R.d
  have e1 : (h ++ [Ob.lst []])[0]? = some (.dct false (st.map fun g => (g.1, W.r g.2.1))) := get_app e0
  have h0 : 0 < h.length := (List.getElem?_eq_some_iff.mp e0).1
  have en : (h ++ [Ob.lst []])[h.length]? = some (.lst []) := by rw [List.getElem?_append_right (Nat.le_refl _), Nat.sub_self]; rfl
  have s1 : mthA .setdefault (.r 0) h (.ok [.d key, .r h.length] (h ++ [.lst []])) = mthW .setdefault (.r 0) [.d key, .r h.length] (h ++ [.lst []]) := by
    unfold mthA
    rw [kind_d e0, if_pos (show mtB .setdefault 3 = true from rfl), bd_ok, kind_d e1, if_pos rfl]
  have fin : ∀ (a : Nat) (ws : List W) (hh : Hs), hh[a]? = some (.lst ws) → ws.length < lim → mthA .append (.r a) hh (.ok [.d (.int k)] hh) = .ok (.d .none) (hh.set a (.lst (ws ++ [.d (.int k)]))) := fun a ws hh e l => mth_app e e l
  rcases find_cases st key with nf | ⟨p, g, r, rfl, f1, f2⟩
  · have nf' : ∀ x ∈ st.map fun g => (g.1, W.r g.2.1), PyData.eqv x.1 key = false := fun x hx => by
      obtain ⟨g, hg, rfl⟩ := List.mem_map.mp hx
      exact nf g hg
    have s2 : mthW .setdefault (.r 0) [.d key, .r h.length] (h ++ [.lst []]) = .ok (.r h.length) ((h ++ [Ob.lst []]).set 0 (.dct false ((st.map fun g => (g.1, W.r g.2.1)) ++ [(key, .r h.length)]))) := by
      unfold mthW
      simp only [e1, hk, List.length_map, hl, true_and, if_true, look_none nf', put_none nf', and_self]
    have e2 : ((h ++ [Ob.lst []]).set 0 (.dct false ((st.map fun g => (g.1, W.r g.2.1)) ++ [(key, .r h.length)])))[h.length]? = some (.lst []) := by
      rw [List.getElem?_set_ne (by omega)]
      exact en
    refine ⟨st ++ [(key, h.length, [k])], _, by rw [← hx, s1, s2, bd_ok, fin _ _ _ e2 (by decide)], ⟨?_, ?_, ?_, ?_⟩, ?_, by simp, ?_⟩
    · rw [List.getElem?_set_ne (by omega), List.getElem?_set_self (by rw [List.length_append]; omega)]
      simp
    · intro g hg
      rcases List.mem_append.mp hg with hg | hg
      · have z := R.l g hg
        have lt := (List.getElem?_eq_some_iff.mp z).1
        have := R.lo g hg
        rw [List.getElem?_set_ne (by omega), List.getElem?_set_ne (by omega)]
        exact get_app z
      · rw [List.mem_singleton.mp hg]
        rw [List.getElem?_set_self (by rw [List.length_set, List.length_append]; exact Nat.lt_succ_self _)]
        rfl
    · intro g hg
      rcases List.mem_append.mp hg with hg | hg
      · exact R.lo g hg
      · rw [List.mem_singleton.mp hg]
        exact h0
    · rw [List.map_append, List.nodup_append]
      refine ⟨R.nd, by simp, fun a ha b hb => ?_⟩
      obtain ⟨g, hg, rfl⟩ := List.mem_map.mp ha
      have lt := (List.getElem?_eq_some_iff.mp (R.l g hg)).1
      have : b = h.length := by simpa using hb
      omega
    · unfold strp
      rw [List.map_append, addG_none]
      · rfl
      · intro x hx
        obtain ⟨g, hg, rfl⟩ := List.mem_map.mp hx
        exact nf g hg
    · intro m hm g hg
      rcases List.mem_append.mp hg with hg | hg
      · exact Nat.le_succ_of_le (hm g hg)
      · rw [List.mem_singleton.mp hg]
        simp
  · have gm : g ∈ p ++ g :: r := List.mem_append_right _ List.mem_cons_self
    have zl := R.l g gm
    have lt := (List.getElem?_eq_some_iff.mp zl).1
    have s2 : mthW .setdefault (.r 0) [.d key, .r h.length] (h ++ [.lst []]) = .ok (.r g.2.1) (h ++ [.lst []]) := by
      have lk : look ((p ++ g :: r).map fun g => (g.1, W.r g.2.1)) key = some (W.r g.2.1) := by
        rw [List.map_append, List.map_cons]
        refine look_some (g := (g.1, W.r g.2.1)) (fun x hx => ?_) f2
        obtain ⟨y, hy, rfl⟩ := List.mem_map.mp hx
        exact f1 y hy
      unfold mthW
      simp only [e1, hk, List.length_map, hl, true_and, if_true, lk, and_self]
    have nd := R.nd
    rw [List.map_append, List.map_cons, List.nodup_append] at nd
    obtain ⟨n1, n2, n3⟩ := nd
    rw [List.nodup_cons] at n2
    refine ⟨p ++ (g.1, g.2.1, g.2.2 ++ [k]) :: r, _, by rw [← hx, s1, s2, bd_ok, fin _ _ _ (get_app zl) (by rw [List.length_map]; exact hp g gm)], ⟨?_, ?_, ?_, ?_⟩, ?_, by simp, ?_⟩
    · have := R.lo g gm
      rw [List.getElem?_set_ne (by omega), e1]
      simp
    · intro x hx
      by_cases c : x.2.1 = g.2.1
      · have ex : x = (g.1, g.2.1, g.2.2 ++ [k]) := by
          rcases List.mem_append.mp hx with hx | hx
          · exact absurd c (n3 _ (List.mem_map.mpr ⟨x, hx, rfl⟩) _ List.mem_cons_self)
          · rcases List.mem_cons.mp hx with hx | hx
            · exact hx
            · exact absurd (List.mem_map.mpr ⟨x, hx, c⟩) n2.1
        rw [ex]
        rw [List.getElem?_set_self (by rw [List.length_append]; omega)]
        simp
      · rw [List.getElem?_set_ne (Ne.symm c)]
        refine get_app (R.l x ?_)
        rcases List.mem_append.mp hx with hx | hx
        · exact List.mem_append_left _ hx
        · rcases List.mem_cons.mp hx with hx | hx
          · rw [hx] at c
            exact absurd rfl c
          · exact List.mem_append_right _ (List.mem_cons_of_mem _ hx)
    · intro x hx
      rcases List.mem_append.mp hx with hx | hx
      · exact R.lo x (List.mem_append_left _ hx)
      · rcases List.mem_cons.mp hx with hx | hx
        · rw [hx]
          exact R.lo g gm
        · exact R.lo x (List.mem_append_right _ (List.mem_cons_of_mem _ hx))
    · rw [List.map_append, List.map_cons]
      have z := R.nd
      rw [List.map_append, List.map_cons] at z
      exact z
    · unfold strp
      rw [List.map_append, List.map_cons, List.map_append, List.map_cons]
      exact (addG_some (g := (g.1, g.2.2)) (fun x hx => by
        obtain ⟨y, hy, rfl⟩ := List.mem_map.mp hx
        exact f1 y hy) f2).symm
    · intro m hm x hx
      rcases List.mem_append.mp hx with hx | hx
      · exact Nat.le_succ_of_le (hm x (List.mem_append_left _ hx))
      · rcases List.mem_cons.mp hx with hx | hx
        · rw [hx]
          have := hm g gm
          simp
          exact this
        · exact Nat.le_succ_of_le (hm x (List.mem_append_right _ (List.mem_cons_of_mem _ hx)))
/-! ### rows of tuples of numbers can be put in order -/
theorem alike_N (a b : List Nat) : PySem.W.alike (N a) (N b) = true := by
  unfold N
  rw [PySem.W.alike]
  have z := PySem.W.alike_ints (a.map fun k : Nat => (k : Int)) (b.map fun k : Nat => (k : Int))
  rw [List.map_map, List.map_map] at z
  exact z
theorem kd_N (a : List Nat) : kd 1 (N a) = true := kd_tup fun x hx => by
  obtain ⟨k, _, rfl⟩ := List.mem_map.mp hx
  exact kd_int 0 k
theorem srtB_N {α : Type} (xs : List α) (f : α → List Nat) : srtB (xs.map fun x => N (f x)) = true := by
  unfold srtB
  rw [Bool.and_eq_true, List.all_eq_true, List.all_eq_true]
  refine ⟨fun x hx => List.all_eq_true.mpr fun y hy => ?_, fun x hx => ?_⟩
  · obtain ⟨a, _, rfl⟩ := List.mem_map.mp hx
    obtain ⟨b, _, rfl⟩ := List.mem_map.mp hy
    exact alike_N _ _
  · obtain ⟨a, _, rfl⟩ := List.mem_map.mp hx
    exact kd_shp (kd_N _) (by omega)
theorem srtK_N {α : Type} (xs : List α) (f : α → List Nat) : srtK (xs.map fun x => N (f x)) = true := by
  unfold srtK
  rw [Bool.or_eq_true]
  refine .inl (List.all_eq_true.mpr fun x hx => ?_)
  obtain ⟨a, _, rfl⟩ := List.mem_map.mp hx
  rfl
theorem addG_len : ∀ (st : List (D × List Nat)) (key : D) (k : Nat), (addG st key k).length ≤ st.length + 1
  | [], _, _ => by simp [addG]
  | g :: r, key, k => by
    unfold addG
    split
    · simp
    · have := addG_len r key k
      simp only [List.length_cons]
      omega
theorem zipIdx_d (xs : List D) : enuL (xs.map W.d) = xs.zipIdx.map fun p => Itm.two (.d (.int (p.2 : Nat))) (.d p.1) := by
  unfold enuL
  rw [List.zipIdx_map, List.map_map]
  rfl
end Rf
namespace Rf
open PySem PySem.Spec PyProof.Rows L2
/-- the groups' keys are unlike -/
structure GK (m : Nat) (st : List (D × List Nat)) : Prop where
  kd : ∀ g ∈ st, kd m g.1 = true ∧ keyT g.1 = true
  ne : st.Pairwise fun a b => PyData.eqv a.1 b.1 = false
theorem find_cases2 {β : Type} (st : List (D × β)) (key : D) : (∀ g ∈ st, PyData.eqv g.1 key = false) ∨ ∃ p g r, st = p ++ g :: r ∧ (∀ x ∈ p, PyData.eqv x.1 key = false) ∧ PyData.eqv g.1 key = true := by
  induction st with
  | nil => exact .inl fun g h => by cases h
  | cons g r ih =>
    cases z : PyData.eqv g.1 key with
    | true => exact .inr ⟨[], g, r, rfl, (fun x h => by cases h), z⟩
    | false =>
      rcases ih with ih | ⟨p, g', r', rfl, h1, h2⟩
      · refine .inl fun x hx => ?_
        rcases List.mem_cons.mp hx with rfl | hx
        · exact z
        · exact ih x hx
      · refine .inr ⟨g :: p, g', r', rfl, fun x hx => ?_, h2⟩
        rcases List.mem_cons.mp hx with rfl | hx
        · exact z
        · exact h1 x hx
theorem GK.add {m : Nat} {st : List (D × List Nat)} (h : GK m st) {key : D} (k : Nat) (hk : Rf.kd m key = true ∧ keyT key = true) : GK m (addG st key k) := by
  rcases find_cases2 st key with nf | ⟨p, g, r, rfl, f1, f2⟩
  · rw [addG_none nf]
    refine ⟨fun g hg => ?_, List.pairwise_append.mpr ⟨h.ne, List.pairwise_singleton _ _, fun a ha b hb => ?_⟩⟩
    · rcases List.mem_append.mp hg with hg | hg
      · exact h.kd g hg
      · rw [List.mem_singleton.mp hg]
        exact hk
    · rw [List.mem_singleton.mp hb]
      exact nf a ha
  · rw [addG_some f1 f2]
    have z := h.ne
    rw [List.pairwise_append, List.pairwise_cons] at z
    obtain ⟨n1, ⟨n2, n3⟩, n4⟩ := z
    refine ⟨fun x hx => ?_, List.pairwise_append.mpr ⟨n1, List.pairwise_cons.mpr ⟨n2, n3⟩, fun a ha b hb => ?_⟩⟩
    · rcases List.mem_append.mp hx with hx | hx
      · exact h.kd x (List.mem_append_left _ hx)
      · rcases List.mem_cons.mp hx with hx | hx
        · rw [hx]
          exact h.kd g (List.mem_append_right _ List.mem_cons_self)
        · exact h.kd x (List.mem_append_right _ (List.mem_cons_of_mem _ hx))
    · rcases List.mem_cons.mp hb with rfl | hb
      · exact n4 a ha g List.mem_cons_self
      · exact n4 a ha b (List.mem_cons_of_mem _ hb)
/-- the group of a key -/
theorem GK.look {m : Nat} {st : List (D × List Nat)} (h : GK m st) {α : Type} (f : List Nat → α) {g : D × List Nat} (hg : g ∈ st) : Rf.look (st.map fun g => (g.1, f g.2)) g.1 = some (f g.2) := by
  obtain ⟨p, r, rfl⟩ := List.append_of_mem hg
  rw [List.map_append, List.map_cons]
  refine look_some (g := (g.1, f g.2)) (fun x hx => ?_) ((kd_eqv (h.kd g hg).1 (h.kd g hg).1).mpr rfl)
  obtain ⟨y, hy, rfl⟩ := List.mem_map.mp hx
  have z := h.ne
  rw [List.pairwise_append] at z
  exact z.2.2 y hy g List.mem_cons_self
/-- groups[key] = groups.get(key, ()) + (k,) -/
theorem look_addG {α : Type} (f : List Nat → α) (st : List (D × List Nat)) (key : D) (k : Nat) (d : α) (hd : ∀ ps, f ps = d → ps = []) (he : f [] = d) :
    ∃ ps, (Rf.look (st.map fun g => (g.1, f g.2)) key).getD d = f ps ∧ (ps = [] ∨ ∃ g ∈ st, g.2 = ps) ∧ put (st.map fun g => (g.1, f g.2)) key (f (ps ++ [k])) = (addG st key k).map fun g => (g.1, f g.2) := by
  rcases find_cases2 st key with nf | ⟨p, g, r, rfl, f1, f2⟩
  · have nf' : ∀ x ∈ st.map fun g => (g.1, f g.2), PyData.eqv x.1 key = false := fun x hx => by
      obtain ⟨g, hg, rfl⟩ := List.mem_map.mp hx
      exact nf g hg
    refine ⟨[], by rw [look_none nf', he]; rfl, .inl rfl, ?_⟩
    rw [put_none nf', addG_none nf, List.map_append]
    rfl
  · have f1' : ∀ x ∈ p.map fun g => (g.1, f g.2), PyData.eqv x.1 key = false := fun x hx => by
      obtain ⟨g, hg, rfl⟩ := List.mem_map.mp hx
      exact f1 g hg
    refine ⟨g.2, ?_, .inr ⟨g, List.mem_append_right _ List.mem_cons_self, rfl⟩, ?_⟩
    · rw [List.map_append, List.map_cons, look_some (g := (g.1, f g.2)) f1' f2]
      rfl
    · rw [List.map_append, List.map_cons, put_some (g := (g.1, f g.2)) f1' f2, addG_some f1 f2, List.map_append, List.map_cons]
theorem grp_ok {m : Nat} (told : List D) (hk : ∀ t ∈ told, kd m t = true ∧ keyT t = true) : ∀ (pre : List (D × Nat)), (∀ p ∈ pre, p.1 ∈ told) → ∀ st, GK m st → GK m (pre.foldl (fun st p => addG st p.1 p.2) st)
  | [], _, st, h => h
  | p :: r, hp, st, h => grp_ok told hk r (fun q hq => hp q (List.mem_cons_of_mem _ hq)) _ (h.add p.2 (hk _ (hp p List.mem_cons_self)))
end Rf
/-! Sorted rows of tuples of numbers. -/
namespace Rf
open PySem PySem.Spec PyProof.Rows L2
theorem toks_ints_inj : ∀ (a b : List Nat), PySem.W.keyToksAll (a.map fun k : Nat => PyData.int k) = PySem.W.keyToksAll (b.map fun k : Nat => PyData.int k) → a = b
  | [], [], _ => rfl
  | [], y :: ys, h => by simp [PySem.W.keyToksAll] at h
  | x :: xs, [], h => by simp [PySem.W.keyToksAll] at h
  | x :: xs, y :: ys, h => by
    simp only [List.map_cons, PySem.W.keyToksAll, PySem.W.keyToks, List.cons_append, List.nil_append, List.cons.injEq, true_and, Sum.inl.injEq] at h
    rw [toks_ints_inj xs ys h.2, Int.ofNat.inj h.1]
theorem lt_of_le_ne {a b : List Nat} (h : PySem.W.dataLe false id (N a) (N b) = true) (ne : a ≠ b) : PySem.W.dataLt (N a) (N b) = true := by
  rw [PySem.W.dataLe_eq] at h
  have h : (!PySem.W.dataLt (N b) (N a)) = true := h
  rw [Bool.not_eq_true'] at h
  cases z : PySem.W.dataLt (N a) (N b) with
  | true => rfl
  | false =>
    exfalso
    unfold N at h z
    rw [PySem.W.dataLt_tuple] at h z
    exact ne (toks_ints_inj a b (lex_total _ _ z h))
theorem srt_N (xs : List (List Nat)) (nd : xs.Nodup) : ∃ ys : List (List Nat), srt (xs.map N) = ys.map N ∧ ys.Perm xs ∧ ys.Pairwise fun a b => PySem.W.dataLt (N a) (N b) = true := by
  let le : List Nat → List Nat → Bool := fun a b => PySem.W.dataLe false id (N a) (N b)
  have tl : PySem.W.TotalLe le := PySem.W.sortLe_total (listOrd itemOrd) false fun a : List Nat => PySem.W.keyToks (N a)
  refine ⟨xs.mergeSort le, ?_, List.mergeSort_perm xs le, ?_⟩
  · unfold srt
    exact (List.map_mergeSort (f := N) (r := le) (s := PySem.W.dataLe false id) fun a _ b _ => rfl).symm
  · have h1 := List.pairwise_mergeSort (le := le) tl.trans (fun a b => by
      rcases tl.total a b with h | h <;> rw [h] <;> simp) xs
    have h2 : (xs.mergeSort le).Nodup := (List.mergeSort_perm xs le).nodup_iff.mpr nd
    exact List.Pairwise.imp₂ (fun a b hab hne => lt_of_le_ne hab hne) h1 h2
theorem pw_at {α : Type} [Inhabited α] {R : α → α → Prop} {l : List α} (h : l.Pairwise R) (k : Nat) (hk : k + 1 < l.length) : R l[k]! l[k + 1]! := by
  rw [getElem!_pos l k (by omega), getElem!_pos l (k + 1) hk]
  exact List.pairwise_iff_getElem.mp h k (k + 1) (by omega) hk (by omega)
end Rf
/-! The text of the law as terms of the small language. -/
namespace Lw
open PySem PySem.Spec PyProof.Rows L2 Rf
def f0_0 : S := (.ret (.and_ (.cons (.isi (.var 0 "value" ⟨31, 22, 31, 27⟩) .int ⟨31, 29, 31, 32⟩ ⟨31, 11, 31, 21⟩ ⟨31, 11, 31, 33⟩) (.cons (.nott (.isi (.var 0 "value" ⟨31, 54, 31, 59⟩) .bool ⟨31, 61, 31, 65⟩ ⟨31, 43, 31, 53⟩ ⟨31, 43, 31, 66⟩) ⟨31, 39, 31, 66⟩) .nil)) ⟨31, 11, 31, 67⟩) ⟨31, 4, 31, 67⟩)
def f0_b : S := .seq f0_0 .skip
/-- is_integer_access -/
def f0 : FEnt := ⟨none, "is_integer", "is_integer_access", ["value"], ["value"], f0_b, false, "is_integer", ⟨[], [⟨"value", none, ⟨30, 15, 30, 20⟩⟩], none, [], [], none, []⟩, ⟨.function, [("value", .local), ("isinstance", .globalImplicit), ("int", .globalImplicit), ("bool", .globalImplicit)], false, false, []⟩⟩
def f1_0 : S := (.ite (.or_ (.cons (.nott (.isi (.var 0 "value" ⟨36, 22, 36, 27⟩) .str ⟨36, 29, 36, 32⟩ ⟨36, 11, 36, 21⟩ ⟨36, 11, 36, 33⟩) ⟨36, 7, 36, 33⟩) (.cons (.nott (.chn .LtE .LtE (.int 1 0 ⟨36, 41, 36, 42⟩) (.bif .len false (.cons (.var 0 "value" ⟨36, 50, 36, 55⟩) .nil) ⟨36, 46, 36, 49⟩ ⟨36, 46, 36, 56⟩) (.int 8 0 ⟨36, 60, 36, 61⟩) ⟨36, 41, 36, 61⟩) ⟨36, 37, 36, 61⟩) .nil)) ⟨36, 7, 36, 61⟩) (.seq (.ret (.bl false 0 ⟨37, 15, 37, 20⟩) ⟨37, 8, 37, 20⟩) .skip) .skip ⟨36, 4, 37, 20⟩)
def f1_1 : S := (.ret (.bif .all false (.cons (.lc false (.cmp .In (.var 1 "char" ⟨38, 16, 38, 20⟩) (.glo "LETTERS" ⟨38, 24, 38, 31⟩) ⟨38, 16, 38, 31⟩) (.var 1 "char" ⟨38, 36, 38, 40⟩) (.exp (.var 0 "value" ⟨38, 44, 38, 49⟩)) .none [("char", 1)] ⟨.function, [(".0", .local), ("char", .local), ("LETTERS", .globalImplicit)], false, false, []⟩ ⟨38, 15, 38, 50⟩) .nil) ⟨38, 11, 38, 14⟩ ⟨38, 11, 38, 51⟩) ⟨38, 4, 38, 51⟩)
def f1_b : S := .seq f1_0 (.seq f1_1 .skip)
/-- is_name -/
def f1 : FEnt := ⟨none, "is_name", "is_name", ["value"], ["value", "char"], f1_b, false, "is_name", ⟨[], [⟨"value", none, ⟨35, 12, 35, 17⟩⟩], none, [], [], none, []⟩, ⟨.function, [("value", .local), ("isinstance", .globalImplicit), ("str", .globalImplicit), ("len", .globalImplicit), ("all", .globalImplicit)], false, false, [("fast", .str "value"), ("fast", .str "char")]⟩⟩
def f2_0 : S := (.ite (.nott (.cal 1 "is_name" (.cons (.var 0 "name" ⟨40, 19, 40, 23⟩) .nil) .nil [] ⟨40, 11, 40, 18⟩ ⟨40, 11, 40, 24⟩) ⟨40, 7, 40, 24⟩) (.seq (.rai "InvalidName" "not a name" 0 ⟨41, 14, 41, 25⟩ ⟨41, 26, 41, 38⟩ ⟨41, 14, 41, 39⟩ ⟨41, 8, 41, 39⟩) .skip) .skip ⟨40, 4, 41, 39⟩)
def f2_b : S := .seq f2_0 .skip
/-- check_name -/
def f2 : FEnt := ⟨none, "check_name", "check_name", ["name"], ["name"], f2_b, false, "check_name", ⟨[], [⟨"name", none, ⟨39, 15, 39, 19⟩⟩], none, [], [], none, []⟩, ⟨.function, [("name", .local), ("is_name", .globalImplicit), ("InvalidName", .globalImplicit)], false, false, []⟩⟩
def f3_0 : S := (.ret (.and_ (.cons (.isi (.var 0 "value" ⟨48, 22, 48, 27⟩) .int ⟨48, 29, 48, 32⟩ ⟨48, 11, 48, 21⟩ ⟨48, 11, 48, 33⟩) (.cons (.nott (.isi (.var 0 "value" ⟨48, 54, 48, 59⟩) .bool ⟨48, 61, 48, 65⟩ ⟨48, 43, 48, 53⟩ ⟨48, 43, 48, 66⟩) ⟨48, 39, 48, 66⟩) .nil)) ⟨48, 11, 48, 67⟩) ⟨48, 4, 48, 67⟩)
def f3_b : S := .seq f3_0 .skip
/-- is_integer -/
def f3 : FEnt := ⟨none, "is_integer", "is_integer", ["value"], ["value"], f3_b, false, "is_integer", ⟨[], [⟨"value", none, ⟨47, 15, 47, 20⟩⟩], none, [], [], none, []⟩, ⟨.function, [("value", .local), ("isinstance", .globalImplicit), ("int", .globalImplicit), ("bool", .globalImplicit)], false, false, []⟩⟩
def f4_0 : S := (.ret (.and_ (.cons (.isi (.var 0 "value" ⟨48, 22, 48, 27⟩) .int ⟨48, 29, 48, 32⟩ ⟨48, 11, 48, 21⟩ ⟨48, 11, 48, 33⟩) (.cons (.nott (.isi (.var 0 "value" ⟨48, 54, 48, 59⟩) .bool ⟨48, 61, 48, 65⟩ ⟨48, 43, 48, 53⟩ ⟨48, 43, 48, 66⟩) ⟨48, 39, 48, 66⟩) .nil)) ⟨48, 11, 48, 67⟩) ⟨48, 4, 48, 67⟩)
def f4_b : S := .seq f4_0 .skip
/-- is_integer_joint_tables -/
def f4 : FEnt := ⟨none, "is_integer", "is_integer_joint_tables", ["value"], ["value"], f4_b, false, "is_integer", ⟨[], [⟨"value", none, ⟨47, 15, 47, 20⟩⟩], none, [], [], none, []⟩, ⟨.function, [("value", .local), ("isinstance", .globalImplicit), ("int", .globalImplicit), ("bool", .globalImplicit)], false, false, []⟩⟩
def f5_0 : S := (.ret (.and_ (.cons (.cal 4 "is_integer_joint_tables" (.cons (.var 0 "value" ⟨51, 35, 51, 40⟩) .nil) .nil [] ⟨51, 11, 51, 34⟩ ⟨51, 11, 51, 41⟩) (.cons (.chn .LtE .LtE (.var 1 "least" ⟨51, 46, 51, 51⟩) (.var 0 "value" ⟨51, 55, 51, 60⟩) (.var 2 "most" ⟨51, 64, 51, 68⟩) ⟨51, 46, 51, 68⟩) .nil)) ⟨51, 11, 51, 68⟩) ⟨51, 4, 51, 68⟩)
def f5_b : S := .seq f5_0 .skip
/-- is_within -/
def f5 : FEnt := ⟨none, "is_within", "is_within", ["value", "least", "most"], ["value", "least", "most"], f5_b, false, "is_within", ⟨[], [⟨"value", none, ⟨50, 14, 50, 19⟩⟩, ⟨"least", none, ⟨50, 21, 50, 26⟩⟩, ⟨"most", none, ⟨50, 28, 50, 32⟩⟩], none, [], [], none, []⟩, ⟨.function, [("value", .local), ("least", .local), ("most", .local), ("is_integer_joint_tables", .globalImplicit)], false, false, []⟩⟩
def f6_0 : S := (.ite (.or_ (.cons (.nott (.isi (.var 0 "value" ⟨53, 22, 53, 27⟩) .tuple ⟨53, 29, 53, 34⟩ ⟨53, 11, 53, 21⟩ ⟨53, 11, 53, 35⟩) ⟨53, 7, 53, 35⟩) (.cons (.nott (.chn .LtE .LtE (.glo "LEAST_HANDS" ⟨53, 43, 53, 54⟩) (.bif .len false (.cons (.var 0 "value" ⟨53, 62, 53, 67⟩) .nil) ⟨53, 58, 53, 61⟩ ⟨53, 58, 53, 68⟩) (.glo "MOST_HANDS" ⟨53, 72, 53, 82⟩) ⟨53, 43, 53, 82⟩) ⟨53, 39, 53, 82⟩) .nil)) ⟨53, 7, 53, 82⟩) (.seq (.ret (.bl false 0 ⟨54, 15, 54, 20⟩) ⟨54, 8, 54, 20⟩) .skip) .skip ⟨53, 4, 54, 20⟩)
def f6_1 : S := (.ret (.bif .all false (.cons (.lc false (.cal 5 "is_within" (.cons (.var 2 "size" ⟨55, 26, 55, 30⟩) (.cons (.int 1 0 ⟨55, 32, 55, 33⟩) (.cons (.var 1 "most" ⟨55, 35, 55, 39⟩) .nil))) .nil [] ⟨55, 16, 55, 25⟩ ⟨55, 16, 55, 40⟩) (.var 2 "size" ⟨55, 45, 55, 49⟩) (.exp (.var 0 "value" ⟨55, 53, 55, 58⟩)) .none [("size", 2)] ⟨.function, [(".0", .local), ("size", .local), ("is_within", .globalImplicit), ("most", .free)], false, false, []⟩ ⟨55, 15, 55, 59⟩) .nil) ⟨55, 11, 55, 14⟩ ⟨55, 11, 55, 60⟩) ⟨55, 4, 55, 60⟩)
def f6_b : S := .seq f6_0 (.seq f6_1 .skip)
/-- are_sizes -/
def f6 : FEnt := ⟨none, "are_sizes", "are_sizes", ["value", "most"], ["value", "most", "size"], f6_b, false, "are_sizes", ⟨[], [⟨"value", none, ⟨52, 14, 52, 19⟩⟩, ⟨"most", none, ⟨52, 21, 52, 25⟩⟩], none, [], [], none, []⟩, ⟨.function, [("value", .local), ("most", .cell), ("isinstance", .globalImplicit), ("tuple", .globalImplicit), ("LEAST_HANDS", .globalImplicit), ("len", .globalImplicit), ("MOST_HANDS", .globalImplicit), ("all", .globalImplicit)], false, false, [("fast", .str "value"), ("fast", .str "most"), ("fast", .str "size")]⟩⟩
def f7_0 : S := (.asg (.var 1 "found" ⟨57, 4, 57, 9⟩) (.lst false (.cons (.tup .nil 0 ⟨57, 13, 57, 15⟩) .nil) ⟨57, 12, 57, 16⟩) ⟨57, 4, 57, 16⟩)
def f7_1 : S := (.for_ (.var 2 "size" ⟨58, 8, 58, 12⟩) (.exp (.var 0 "sizes" ⟨58, 16, 58, 21⟩)) (.seq (.asg (.var 1 "found" ⟨59, 8, 59, 13⟩) (.lc2 false (.bin .Add false (.var 3 "inputs" ⟨59, 17, 59, 23⟩) (.tup (.cons (.var 4 "one" ⟨59, 27, 59, 30⟩) .nil) 0 ⟨59, 26, 59, 32⟩) ⟨59, 17, 59, 32⟩) (.var 3 "inputs" ⟨59, 37, 59, 43⟩) (.exp (.var 1 "found" ⟨59, 47, 59, 52⟩)) .none (.var 4 "one" ⟨59, 57, 59, 60⟩) (.rng (.cons (.var 2 "size" ⟨59, 70, 59, 74⟩) .nil) ⟨59, 64, 59, 69⟩ ⟨59, 64, 59, 75⟩) .none [("inputs", 3), ("one", 4)] [4] ⟨.function, [(".0", .local), ("inputs", .local), ("one", .local), ("range", .globalImplicit), ("size", .free)], false, false, []⟩ ⟨59, 16, 59, 76⟩) ⟨59, 8, 59, 76⟩) .skip) ⟨58, 4, 59, 76⟩)
def f7_2 : S := (.ret (.var 1 "found" ⟨60, 11, 60, 16⟩) ⟨60, 4, 60, 16⟩)
def f7_b : S := .seq f7_0 (.seq f7_1 (.seq f7_2 .skip))
/-- inputs_of -/
def f7 : FEnt := ⟨none, "inputs_of", "inputs_of", ["sizes"], ["sizes", "found", "size", "inputs", "one"], f7_b, false, "inputs_of", ⟨[], [⟨"sizes", none, ⟨56, 14, 56, 19⟩⟩], none, [], [], none, []⟩, ⟨.function, [("sizes", .local), ("found", .local), ("size", .cell)], false, false, [("fast", .str "sizes"), ("fast", .str "found"), ("fast", .str "size"), ("fast", .str "inputs"), ("fast", .str "one")]⟩⟩
def f8_0 : S := (.ret (.or_ (.cons (.cmp .Is (.var 0 "value" ⟨62, 11, 62, 16⟩) (.non 0 ⟨62, 20, 62, 24⟩) ⟨62, 11, 62, 24⟩) (.cons (.cal 5 "is_within" (.cons (.var 0 "value" ⟨62, 38, 62, 43⟩) (.cons (.int 0 0 ⟨62, 45, 62, 46⟩) (.cons (.glo "MOST_OUT" ⟨62, 48, 62, 56⟩) .nil))) .nil [] ⟨62, 28, 62, 37⟩ ⟨62, 28, 62, 57⟩) .nil)) ⟨62, 11, 62, 57⟩) ⟨62, 4, 62, 57⟩)
def f8_b : S := .seq f8_0 .skip
/-- is_out -/
def f8 : FEnt := ⟨none, "is_out", "is_out", ["value"], ["value"], f8_b, false, "is_out", ⟨[], [⟨"value", none, ⟨61, 11, 61, 16⟩⟩], none, [], [], none, []⟩, ⟨.function, [("value", .local), ("is_within", .globalImplicit), ("MOST_OUT", .globalImplicit)], false, false, []⟩⟩
def f9_0 : S := (.ite (.or_ (.cons (.nott (.isi (.var 0 "value" ⟨64, 22, 64, 27⟩) .tuple ⟨64, 29, 64, 34⟩ ⟨64, 11, 64, 21⟩ ⟨64, 11, 64, 35⟩) ⟨64, 7, 64, 35⟩) (.cons (.cmp .NotEq (.bif .len false (.cons (.var 0 "value" ⟨64, 43, 64, 48⟩) .nil) ⟨64, 39, 64, 42⟩ ⟨64, 39, 64, 49⟩) (.int 2 0 ⟨64, 53, 64, 54⟩) ⟨64, 39, 64, 54⟩) (.cons (.nott (.cal 6 "are_sizes" (.cons (.sub (.var 0 "value" ⟨64, 73, 64, 78⟩) (.int 0 0 ⟨64, 79, 64, 80⟩) ⟨64, 73, 64, 81⟩) (.cons (.glo "MOST_SIZE" ⟨64, 83, 64, 92⟩) .nil)) .nil [] ⟨64, 63, 64, 72⟩ ⟨64, 63, 64, 93⟩) ⟨64, 59, 64, 93⟩) .nil))) ⟨64, 7, 64, 94⟩) (.seq (.ret (.bl false 0 ⟨65, 15, 65, 20⟩) ⟨65, 8, 65, 20⟩) .skip) .skip ⟨64, 4, 65, 20⟩)
def f9_1 : S := (.asg (.tup (.cons (.var 1 "sizes" ⟨66, 4, 66, 9⟩) (.cons (.var 2 "outs" ⟨66, 11, 66, 15⟩) .nil)) 0 ⟨66, 4, 66, 15⟩) (.var 0 "value" ⟨66, 18, 66, 23⟩) ⟨66, 4, 66, 23⟩)
def f9_2 : S := (.ite (.or_ (.cons (.nott (.isi (.var 2 "outs" ⟨67, 22, 67, 26⟩) .tuple ⟨67, 28, 67, 33⟩ ⟨67, 11, 67, 21⟩ ⟨67, 11, 67, 34⟩) ⟨67, 7, 67, 34⟩) (.cons (.cmp .NotEq (.bif .len false (.cons (.var 2 "outs" ⟨67, 42, 67, 46⟩) .nil) ⟨67, 38, 67, 41⟩ ⟨67, 38, 67, 47⟩) (.bif .len false (.cons (.cal 7 "inputs_of" (.cons (.var 1 "sizes" ⟨67, 65, 67, 70⟩) .nil) .nil [] ⟨67, 55, 67, 64⟩ ⟨67, 55, 67, 71⟩) .nil) ⟨67, 51, 67, 54⟩ ⟨67, 51, 67, 72⟩) ⟨67, 38, 67, 72⟩) .nil)) ⟨67, 7, 67, 72⟩) (.seq (.ret (.bl false 0 ⟨68, 15, 68, 20⟩) ⟨68, 8, 68, 20⟩) .skip) .skip ⟨67, 4, 68, 20⟩)
def f9_3 : S := (.for_ (.var 3 "row" ⟨69, 8, 69, 11⟩) (.exp (.var 2 "outs" ⟨69, 15, 69, 19⟩)) (.seq (.ite (.or_ (.cons (.nott (.isi (.var 3 "row" ⟨70, 26, 70, 29⟩) .tuple ⟨70, 31, 70, 36⟩ ⟨70, 15, 70, 25⟩ ⟨70, 15, 70, 37⟩) ⟨70, 11, 70, 37⟩) (.cons (.cmp .NotEq (.bif .len false (.cons (.var 3 "row" ⟨70, 45, 70, 48⟩) .nil) ⟨70, 41, 70, 44⟩ ⟨70, 41, 70, 49⟩) (.bif .len false (.cons (.var 1 "sizes" ⟨70, 57, 70, 62⟩) .nil) ⟨70, 53, 70, 56⟩ ⟨70, 53, 70, 63⟩) ⟨70, 41, 70, 63⟩) (.cons (.nott (.bif .all false (.cons (.lc false (.cal 8 "is_out" (.cons (.var 4 "out" ⟨70, 84, 70, 87⟩) .nil) .nil [] ⟨70, 77, 70, 83⟩ ⟨70, 77, 70, 88⟩) (.var 4 "out" ⟨70, 93, 70, 96⟩) (.exp (.var 3 "row" ⟨70, 100, 70, 103⟩)) .none [("out", 4)] ⟨.function, [(".0", .local), ("out", .local), ("is_out", .globalImplicit)], false, false, []⟩ ⟨70, 76, 70, 104⟩) .nil) ⟨70, 72, 70, 75⟩ ⟨70, 72, 70, 105⟩) ⟨70, 68, 70, 105⟩) .nil))) ⟨70, 11, 70, 106⟩) (.seq (.ret (.bl false 0 ⟨71, 19, 71, 24⟩) ⟨71, 12, 71, 24⟩) .skip) .skip ⟨70, 8, 71, 24⟩) .skip) ⟨69, 4, 71, 24⟩)
def f9_4 : S := (.ret (.bl true 0 ⟨72, 11, 72, 15⟩) ⟨72, 4, 72, 15⟩)
def f9_b : S := .seq f9_0 (.seq f9_1 (.seq f9_2 (.seq f9_3 (.seq f9_4 .skip))))
/-- is_joint -/
def f9 : FEnt := ⟨none, "is_joint", "is_joint", ["value"], ["value", "sizes", "outs", "row", "out"], f9_b, false, "is_joint", ⟨[], [⟨"value", none, ⟨63, 13, 63, 18⟩⟩], none, [], [], none, []⟩, ⟨.function, [("value", .local), ("sizes", .local), ("outs", .local), ("row", .local), ("isinstance", .globalImplicit), ("tuple", .globalImplicit), ("len", .globalImplicit), ("are_sizes", .globalImplicit), ("MOST_SIZE", .globalImplicit), ("inputs_of", .globalImplicit), ("all", .globalImplicit)], false, false, [("fast", .str "value"), ("fast", .str "sizes"), ("fast", .str "outs"), ("fast", .str "row"), ("fast", .str "out")]⟩⟩
def f10_0 : S := (.ite (.or_ (.cons (.nott (.isi (.var 0 "value" ⟨74, 22, 74, 27⟩) .tuple ⟨74, 29, 74, 34⟩ ⟨74, 11, 74, 21⟩ ⟨74, 11, 74, 35⟩) ⟨74, 7, 74, 35⟩) (.cons (.nott (.bif .all false (.cons (.lc false (.cal 5 "is_within" (.cons (.var 2 "hand" ⟨74, 58, 74, 62⟩) (.cons (.int 0 0 ⟨74, 64, 74, 65⟩) (.cons (.bin .Sub false (.var 1 "count" ⟨74, 67, 74, 72⟩) (.int 1 0 ⟨74, 75, 74, 76⟩) ⟨74, 67, 74, 76⟩) .nil))) .nil [] ⟨74, 48, 74, 57⟩ ⟨74, 48, 74, 77⟩) (.var 2 "hand" ⟨74, 82, 74, 86⟩) (.exp (.var 0 "value" ⟨74, 90, 74, 95⟩)) .none [("hand", 2)] ⟨.function, [(".0", .local), ("hand", .local), ("is_within", .globalImplicit), ("count", .free)], false, false, []⟩ ⟨74, 47, 74, 96⟩) .nil) ⟨74, 43, 74, 46⟩ ⟨74, 43, 74, 97⟩) ⟨74, 39, 74, 97⟩) .nil)) ⟨74, 7, 74, 97⟩) (.seq (.ret (.bl false 0 ⟨75, 15, 75, 20⟩) ⟨75, 8, 75, 20⟩) .skip) .skip ⟨74, 4, 75, 20⟩)
def f10_1 : S := (.ret (.bif .all false (.cons (.lc false (.cmp .Lt (.sub (.var 0 "value" ⟨76, 16, 76, 21⟩) (.var 3 "k" ⟨76, 22, 76, 23⟩) ⟨76, 16, 76, 24⟩) (.sub (.var 0 "value" ⟨76, 27, 76, 32⟩) (.bin .Add false (.var 3 "k" ⟨76, 33, 76, 34⟩) (.int 1 0 ⟨76, 37, 76, 38⟩) ⟨76, 33, 76, 38⟩) ⟨76, 27, 76, 39⟩) ⟨76, 16, 76, 39⟩) (.var 3 "k" ⟨76, 44, 76, 45⟩) (.rng (.cons (.bin .Sub false (.bif .len false (.cons (.var 0 "value" ⟨76, 59, 76, 64⟩) .nil) ⟨76, 55, 76, 58⟩ ⟨76, 55, 76, 65⟩) (.int 1 0 ⟨76, 68, 76, 69⟩) ⟨76, 55, 76, 69⟩) .nil) ⟨76, 49, 76, 54⟩ ⟨76, 49, 76, 70⟩) .none [("k", 3)] ⟨.function, [(".0", .local), ("k", .local), ("value", .free)], false, false, []⟩ ⟨76, 15, 76, 71⟩) .nil) ⟨76, 11, 76, 14⟩ ⟨76, 11, 76, 72⟩) ⟨76, 4, 76, 72⟩)
def f10_b : S := .seq f10_0 (.seq f10_1 .skip)
/-- is_lot_of_hands -/
def f10 : FEnt := ⟨none, "is_lot_of_hands", "is_lot_of_hands", ["value", "count"], ["value", "count", "hand", "k"], f10_b, false, "is_lot_of_hands", ⟨[], [⟨"value", none, ⟨73, 20, 73, 25⟩⟩, ⟨"count", none, ⟨73, 27, 73, 32⟩⟩], none, [], [], none, []⟩, ⟨.function, [("value", .cell), ("count", .cell), ("isinstance", .globalImplicit), ("tuple", .globalImplicit), ("all", .globalImplicit), ("range", .globalImplicit), ("len", .globalImplicit)], false, false, [("fast", .str "value"), ("fast", .str "count"), ("fast", .str "hand"), ("fast", .str "k")]⟩⟩
def f11_0 : S := (.ite (.nott (.cal 10 "is_lot_of_hands" (.cons (.var 0 "lot" ⟨78, 27, 78, 30⟩) (.cons (.var 1 "count" ⟨78, 32, 78, 37⟩) .nil)) .nil [] ⟨78, 11, 78, 26⟩ ⟨78, 11, 78, 38⟩) ⟨78, 7, 78, 38⟩) (.seq (.rai "InvalidLot" "not a lot of hands" 0 ⟨79, 14, 79, 24⟩ ⟨79, 25, 79, 45⟩ ⟨79, 14, 79, 46⟩ ⟨79, 8, 79, 46⟩) .skip) .skip ⟨78, 4, 79, 46⟩)
def f11_b : S := .seq f11_0 .skip
/-- check_lot -/
def f11 : FEnt := ⟨none, "check_lot", "check_lot", ["lot", "count"], ["lot", "count"], f11_b, false, "check_lot", ⟨[], [⟨"lot", none, ⟨77, 14, 77, 17⟩⟩, ⟨"count", none, ⟨77, 19, 77, 24⟩⟩], none, [], [], none, []⟩, ⟨.function, [("lot", .local), ("count", .local), ("is_lot_of_hands", .globalImplicit), ("InvalidLot", .globalImplicit)], false, false, []⟩⟩
def f12_0 : S := (.ite (.or_ (.cons (.nott (.isi (.var 0 "value" ⟨81, 22, 81, 27⟩) .tuple ⟨81, 29, 81, 34⟩ ⟨81, 11, 81, 21⟩ ⟨81, 11, 81, 35⟩) ⟨81, 7, 81, 35⟩) (.cons (.cmp .NotEq (.bif .len false (.cons (.var 0 "value" ⟨81, 43, 81, 48⟩) .nil) ⟨81, 39, 81, 42⟩ ⟨81, 39, 81, 49⟩) (.bif .len false (.cons (.var 1 "sizes" ⟨81, 57, 81, 62⟩) .nil) ⟨81, 53, 81, 56⟩ ⟨81, 53, 81, 63⟩) ⟨81, 39, 81, 63⟩) .nil)) ⟨81, 7, 81, 63⟩) (.seq (.ret (.bl false 0 ⟨82, 15, 82, 20⟩) ⟨82, 8, 82, 20⟩) .skip) .skip ⟨81, 4, 82, 20⟩)
def f12_1 : S := (.ret (.bif .all false (.cons (.lc false (.cal 5 "is_within" (.cons (.var 2 "one" ⟨83, 26, 83, 29⟩) (.cons (.int 0 0 ⟨83, 31, 83, 32⟩) (.cons (.bin .Sub false (.var 3 "size" ⟨83, 34, 83, 38⟩) (.int 1 0 ⟨83, 41, 83, 42⟩) ⟨83, 34, 83, 42⟩) .nil))) .nil [] ⟨83, 16, 83, 25⟩ ⟨83, 16, 83, 43⟩) (.tup (.cons (.var 2 "one" ⟨83, 48, 83, 51⟩) (.cons (.var 3 "size" ⟨83, 53, 83, 57⟩) .nil)) 0 ⟨83, 48, 83, 57⟩) (.zip (.var 0 "value" ⟨83, 65, 83, 70⟩) (.var 1 "sizes" ⟨83, 72, 83, 77⟩) ⟨83, 61, 83, 64⟩ ⟨83, 61, 83, 78⟩) .none [("one", 2), ("size", 3)] ⟨.function, [(".0", .local), ("one", .local), ("size", .local), ("is_within", .globalImplicit)], false, false, []⟩ ⟨83, 15, 83, 79⟩) .nil) ⟨83, 11, 83, 14⟩ ⟨83, 11, 83, 80⟩) ⟨83, 4, 83, 80⟩)
def f12_b : S := .seq f12_0 (.seq f12_1 .skip)
/-- are_inputs -/
def f12 : FEnt := ⟨none, "are_inputs", "are_inputs", ["value", "sizes"], ["value", "sizes", "one", "size"], f12_b, false, "are_inputs", ⟨[], [⟨"value", none, ⟨80, 15, 80, 20⟩⟩, ⟨"sizes", none, ⟨80, 22, 80, 27⟩⟩], none, [], [], none, []⟩, ⟨.function, [("value", .local), ("sizes", .local), ("isinstance", .globalImplicit), ("tuple", .globalImplicit), ("len", .globalImplicit), ("all", .globalImplicit), ("zip", .globalImplicit)], false, false, [("fast", .str "value"), ("fast", .str "sizes"), ("fast", .str "one"), ("fast", .str "size")]⟩⟩
def f13_0 : S := (.ite (.nott (.cal 12 "are_inputs" (.cons (.var 0 "inputs" ⟨85, 22, 85, 28⟩) (.cons (.var 1 "sizes" ⟨85, 30, 85, 35⟩) .nil)) .nil [] ⟨85, 11, 85, 21⟩ ⟨85, 11, 85, 36⟩) ⟨85, 7, 85, 36⟩) (.seq (.rai "InvalidInputs" "not an input tuple" 0 ⟨86, 14, 86, 27⟩ ⟨86, 28, 86, 48⟩ ⟨86, 14, 86, 49⟩ ⟨86, 8, 86, 49⟩) .skip) .skip ⟨85, 4, 86, 49⟩)
def f13_b : S := .seq f13_0 .skip
/-- check_inputs -/
def f13 : FEnt := ⟨none, "check_inputs", "check_inputs", ["inputs", "sizes"], ["inputs", "sizes"], f13_b, false, "check_inputs", ⟨[], [⟨"inputs", none, ⟨84, 17, 84, 23⟩⟩, ⟨"sizes", none, ⟨84, 25, 84, 30⟩⟩], none, [], [], none, []⟩, ⟨.function, [("inputs", .local), ("sizes", .local), ("are_inputs", .globalImplicit), ("InvalidInputs", .globalImplicit)], false, false, []⟩⟩
def f14_0 : S := (.asg (.var 2 "place" ⟨88, 4, 88, 9⟩) (.int 0 0 ⟨88, 12, 88, 13⟩) ⟨88, 4, 88, 13⟩)
def f14_1 : S := (.for_ (.tup (.cons (.var 3 "one" ⟨89, 8, 89, 11⟩) (.cons (.var 4 "size" ⟨89, 13, 89, 17⟩) .nil)) 0 ⟨89, 8, 89, 17⟩) (.zip (.var 1 "inputs" ⟨89, 25, 89, 31⟩) (.var 0 "sizes" ⟨89, 33, 89, 38⟩) ⟨89, 21, 89, 24⟩ ⟨89, 21, 89, 39⟩) (.seq (.asg (.var 2 "place" ⟨90, 8, 90, 13⟩) (.bin .Add false (.bin .Mult false (.var 2 "place" ⟨90, 16, 90, 21⟩) (.var 4 "size" ⟨90, 24, 90, 28⟩) ⟨90, 16, 90, 28⟩) (.var 3 "one" ⟨90, 31, 90, 34⟩) ⟨90, 16, 90, 34⟩) ⟨90, 8, 90, 34⟩) .skip) ⟨89, 4, 90, 34⟩)
def f14_2 : S := (.ret (.var 2 "place" ⟨91, 11, 91, 16⟩) ⟨91, 4, 91, 16⟩)
def f14_b : S := .seq f14_0 (.seq f14_1 (.seq f14_2 .skip))
/-- place_of -/
def f14 : FEnt := ⟨none, "place_of", "place_of", ["sizes", "inputs"], ["sizes", "inputs", "place", "one", "size"], f14_b, false, "place_of", ⟨[], [⟨"sizes", none, ⟨87, 13, 87, 18⟩⟩, ⟨"inputs", none, ⟨87, 20, 87, 26⟩⟩], none, [], [], none, []⟩, ⟨.function, [("sizes", .local), ("inputs", .local), ("place", .local), ("one", .local), ("size", .local), ("zip", .globalImplicit)], false, false, []⟩⟩
def f15_0 : S := (.ret (.sub (.sub (.var 0 "joint" ⟨93, 11, 93, 16⟩) (.int 1 0 ⟨93, 17, 93, 18⟩) ⟨93, 11, 93, 19⟩) (.cal 14 "place_of" (.cons (.sub (.var 0 "joint" ⟨93, 29, 93, 34⟩) (.int 0 0 ⟨93, 35, 93, 36⟩) ⟨93, 29, 93, 37⟩) (.cons (.var 1 "inputs" ⟨93, 39, 93, 45⟩) .nil)) .nil [] ⟨93, 20, 93, 28⟩ ⟨93, 20, 93, 46⟩) ⟨93, 11, 93, 47⟩) ⟨93, 4, 93, 47⟩)
def f15_b : S := .seq f15_0 .skip
/-- outs_at -/
def f15 : FEnt := ⟨none, "outs_at", "outs_at", ["joint", "inputs"], ["joint", "inputs"], f15_b, false, "outs_at", ⟨[], [⟨"joint", none, ⟨92, 12, 92, 17⟩⟩, ⟨"inputs", none, ⟨92, 19, 92, 25⟩⟩], none, [], [], none, []⟩, ⟨.function, [("joint", .local), ("inputs", .local), ("place_of", .globalImplicit)], false, false, []⟩⟩
def f16_0 : S := (.ret (.bif .tuple false (.cons (.lc false (.sub (.var 0 "whole" ⟨95, 18, 95, 23⟩) (.var 2 "hand" ⟨95, 24, 95, 28⟩) ⟨95, 18, 95, 29⟩) (.var 2 "hand" ⟨95, 34, 95, 38⟩) (.exp (.var 1 "lot" ⟨95, 42, 95, 45⟩)) .none [("hand", 2)] ⟨.function, [(".0", .local), ("hand", .local), ("whole", .free)], false, false, []⟩ ⟨95, 17, 95, 46⟩) .nil) ⟨95, 11, 95, 16⟩ ⟨95, 11, 95, 47⟩) ⟨95, 4, 95, 47⟩)
def f16_b : S := .seq f16_0 .skip
/-- part_of -/
def f16 : FEnt := ⟨none, "part_of", "part_of", ["whole", "lot"], ["whole", "lot", "hand"], f16_b, false, "part_of", ⟨[], [⟨"whole", none, ⟨94, 12, 94, 17⟩⟩, ⟨"lot", none, ⟨94, 19, 94, 22⟩⟩], none, [], [], none, []⟩, ⟨.function, [("whole", .cell), ("lot", .local), ("tuple", .globalImplicit)], false, false, [("fast", .str "whole"), ("fast", .str "lot"), ("fast", .str "hand")]⟩⟩
def f17_0 : S := (.ret (.tup (.cons (.cal 16 "part_of" (.cons (.var 1 "inputs" ⟨97, 20, 97, 26⟩) (.cons (.var 2 "lot" ⟨97, 28, 97, 31⟩) .nil)) .nil [] ⟨97, 12, 97, 19⟩ ⟨97, 12, 97, 32⟩) (.cons (.cal 16 "part_of" (.cons (.cal 15 "outs_at" (.cons (.var 0 "joint" ⟨97, 50, 97, 55⟩) (.cons (.var 1 "inputs" ⟨97, 57, 97, 63⟩) .nil)) .nil [] ⟨97, 42, 97, 49⟩ ⟨97, 42, 97, 64⟩) (.cons (.var 2 "lot" ⟨97, 66, 97, 69⟩) .nil)) .nil [] ⟨97, 34, 97, 41⟩ ⟨97, 34, 97, 70⟩) .nil)) 0 ⟨97, 11, 97, 71⟩) ⟨97, 4, 97, 71⟩)
def f17_b : S := .seq f17_0 .skip
/-- answer_of -/
def f17 : FEnt := ⟨none, "answer_of", "answer_of", ["joint", "inputs", "lot"], ["joint", "inputs", "lot"], f17_b, false, "answer_of", ⟨[], [⟨"joint", none, ⟨96, 14, 96, 19⟩⟩, ⟨"inputs", none, ⟨96, 21, 96, 27⟩⟩, ⟨"lot", none, ⟨96, 29, 96, 32⟩⟩], none, [], [], none, []⟩, ⟨.function, [("joint", .local), ("inputs", .local), ("lot", .local), ("part_of", .globalImplicit), ("outs_at", .globalImplicit)], false, false, []⟩⟩
def f18_0 : S := (.ret (.lc false (.cal 17 "answer_of" (.cons (.var 0 "joint" ⟨99, 22, 99, 27⟩) (.cons (.var 2 "inputs" ⟨99, 29, 99, 35⟩) (.cons (.var 1 "lot" ⟨99, 37, 99, 40⟩) .nil))) .nil [] ⟨99, 12, 99, 21⟩ ⟨99, 12, 99, 41⟩) (.var 2 "inputs" ⟨99, 46, 99, 52⟩) (.exp (.cal 7 "inputs_of" (.cons (.sub (.var 0 "joint" ⟨99, 66, 99, 71⟩) (.int 0 0 ⟨99, 72, 99, 73⟩) ⟨99, 66, 99, 74⟩) .nil) .nil [] ⟨99, 56, 99, 65⟩ ⟨99, 56, 99, 75⟩)) .none [("inputs", 2)] ⟨.function, [(".0", .local), ("inputs", .local), ("answer_of", .globalImplicit), ("joint", .free), ("lot", .free)], false, false, []⟩ ⟨99, 11, 99, 76⟩) ⟨99, 4, 99, 76⟩)
def f18_b : S := .seq f18_0 .skip
/-- answers_of -/
def f18 : FEnt := ⟨none, "answers_of", "answers_of", ["joint", "lot"], ["joint", "lot", "inputs"], f18_b, false, "answers_of", ⟨[], [⟨"joint", none, ⟨98, 15, 98, 20⟩⟩, ⟨"lot", none, ⟨98, 22, 98, 25⟩⟩], none, [], [], none, []⟩, ⟨.function, [("joint", .cell), ("lot", .cell), ("inputs_of", .globalImplicit)], false, false, [("fast", .str "joint"), ("fast", .str "lot"), ("fast", .str "inputs")]⟩⟩
def f19_0 : S := (.asg (.var 1 "groups" ⟨101, 4, 101, 10⟩) (.dic ⟨101, 13, 101, 15⟩) ⟨101, 4, 101, 15⟩)
def f19_1 : S := (.for_ (.tup (.cons (.var 2 "place" ⟨102, 8, 102, 13⟩) (.cons (.var 3 "one" ⟨102, 15, 102, 18⟩) .nil)) 0 ⟨102, 8, 102, 18⟩) (.enu (.var 0 "told" ⟨102, 32, 102, 36⟩) ⟨102, 22, 102, 31⟩ ⟨102, 22, 102, 37⟩) (.seq (.exp (.mth .append (.mth .setdefault (.var 1 "groups" ⟨103, 8, 103, 14⟩) (.cons (.var 3 "one" ⟨103, 26, 103, 29⟩) (.cons (.lst true .nil ⟨103, 31, 103, 33⟩) .nil)) ⟨103, 8, 103, 25⟩ ⟨103, 8, 103, 34⟩) (.cons (.var 2 "place" ⟨103, 42, 103, 47⟩) .nil) ⟨103, 8, 103, 41⟩ ⟨103, 8, 103, 48⟩) ⟨103, 8, 103, 48⟩) .skip) ⟨102, 4, 103, 48⟩)
def f19_2 : S := (.ret (.bif .tuple false (.cons (.bif .sorted false (.cons (.lc false (.bif .tuple false (.cons (.var 4 "places" ⟨104, 31, 104, 37⟩) .nil) ⟨104, 25, 104, 30⟩ ⟨104, 25, 104, 38⟩) (.var 4 "places" ⟨104, 43, 104, 49⟩) (.vals (.var 1 "groups" ⟨104, 53, 104, 59⟩) ⟨104, 53, 104, 66⟩ ⟨104, 53, 104, 68⟩) .none [("places", 4)] ⟨.function, [(".0", .local), ("places", .local), ("tuple", .globalImplicit)], false, false, []⟩ ⟨104, 24, 104, 69⟩) .nil) ⟨104, 17, 104, 23⟩ ⟨104, 17, 104, 70⟩) .nil) ⟨104, 11, 104, 16⟩ ⟨104, 11, 104, 71⟩) ⟨104, 4, 104, 71⟩)
def f19_b : S := .seq f19_0 (.seq f19_1 (.seq f19_2 .skip))
/-- groups_of -/
def f19 : FEnt := ⟨none, "groups_of", "groups_of", ["told"], ["told", "groups", "place", "one", "places"], f19_b, false, "groups_of", ⟨[], [⟨"told", none, ⟨100, 14, 100, 18⟩⟩], none, [], [], none, []⟩, ⟨.function, [("told", .local), ("groups", .local), ("place", .local), ("one", .local), ("enumerate", .globalImplicit), ("tuple", .globalImplicit), ("sorted", .globalImplicit)], false, false, [("fast", .str "told"), ("fast", .str "groups"), ("fast", .str "place"), ("fast", .str "one"), ("fast", .str "places")]⟩⟩
def f20_0 : S := (.ite (.or_ (.cons (.nott (.isi (.var 0 "value" ⟨107, 22, 107, 27⟩) .tuple ⟨107, 29, 107, 34⟩ ⟨107, 11, 107, 21⟩ ⟨107, 11, 107, 35⟩) ⟨107, 7, 107, 35⟩) (.cons (.cmp .NotEq (.bif .len false (.cons (.var 0 "value" ⟨107, 43, 107, 48⟩) .nil) ⟨107, 39, 107, 42⟩ ⟨107, 39, 107, 49⟩) (.int 2 0 ⟨107, 53, 107, 54⟩) ⟨107, 39, 107, 54⟩) (.cons (.nott (.cal 10 "is_lot_of_hands" (.cons (.sub (.var 0 "value" ⟨107, 79, 107, 84⟩) (.int 0 0 ⟨107, 85, 107, 86⟩) ⟨107, 79, 107, 87⟩) (.cons (.var 1 "count" ⟨107, 89, 107, 94⟩) .nil)) .nil [] ⟨107, 63, 107, 78⟩ ⟨107, 63, 107, 95⟩) ⟨107, 59, 107, 95⟩) .nil))) ⟨107, 7, 107, 96⟩) (.seq (.ret (.bl false 0 ⟨108, 15, 108, 20⟩) ⟨108, 8, 108, 20⟩) .skip) .skip ⟨107, 4, 108, 20⟩)
def f20_1 : S := (.ret (.and_ (.cons (.cal 0 "is_integer_access" (.cons (.sub (.var 0 "value" ⟨109, 29, 109, 34⟩) (.int 1 0 ⟨109, 35, 109, 36⟩) ⟨109, 29, 109, 37⟩) .nil) .nil [] ⟨109, 11, 109, 28⟩ ⟨109, 11, 109, 38⟩) (.cons (.cmp .GtE (.sub (.var 0 "value" ⟨109, 43, 109, 48⟩) (.int 1 0 ⟨109, 49, 109, 50⟩) ⟨109, 43, 109, 51⟩) (.int 1 0 ⟨109, 55, 109, 56⟩) ⟨109, 43, 109, 56⟩) .nil)) ⟨109, 11, 109, 56⟩) ⟨109, 4, 109, 56⟩)
def f20_b : S := .seq f20_0 (.seq f20_1 .skip)
/-- is_limit -/
def f20 : FEnt := ⟨none, "is_limit", "is_limit", ["value", "count"], ["value", "count"], f20_b, false, "is_limit", ⟨[], [⟨"value", none, ⟨106, 13, 106, 18⟩⟩, ⟨"count", none, ⟨106, 20, 106, 25⟩⟩], none, [], [], none, []⟩, ⟨.function, [("value", .local), ("count", .local), ("isinstance", .globalImplicit), ("tuple", .globalImplicit), ("len", .globalImplicit), ("is_lot_of_hands", .globalImplicit), ("is_integer_access", .globalImplicit)], false, false, []⟩⟩
def f21_0 : S := (.ite (.or_ (.cons (.nott (.isi (.var 0 "value" ⟨111, 22, 111, 27⟩) .tuple ⟨111, 29, 111, 34⟩ ⟨111, 11, 111, 21⟩ ⟨111, 11, 111, 35⟩) ⟨111, 7, 111, 35⟩) (.cons (.nott (.bif .all false (.cons (.lc false (.cal 20 "is_limit" (.cons (.var 2 "limit" ⟨111, 57, 111, 62⟩) (.cons (.var 1 "count" ⟨111, 64, 111, 69⟩) .nil)) .nil [] ⟨111, 48, 111, 56⟩ ⟨111, 48, 111, 70⟩) (.var 2 "limit" ⟨111, 75, 111, 80⟩) (.exp (.var 0 "value" ⟨111, 84, 111, 89⟩)) .none [("limit", 2)] ⟨.function, [(".0", .local), ("limit", .local), ("is_limit", .globalImplicit), ("count", .free)], false, false, []⟩ ⟨111, 47, 111, 90⟩) .nil) ⟨111, 43, 111, 46⟩ ⟨111, 43, 111, 91⟩) ⟨111, 39, 111, 91⟩) .nil)) ⟨111, 7, 111, 91⟩) (.seq (.ret (.bl false 0 ⟨112, 15, 112, 20⟩) ⟨112, 8, 112, 20⟩) .skip) .skip ⟨111, 4, 112, 20⟩)
def f21_1 : S := (.ret (.bif .all false (.cons (.lc false (.cmp .Lt (.sub (.sub (.var 0 "value" ⟨113, 16, 113, 21⟩) (.var 3 "k" ⟨113, 22, 113, 23⟩) ⟨113, 16, 113, 24⟩) (.int 0 0 ⟨113, 25, 113, 26⟩) ⟨113, 16, 113, 27⟩) (.sub (.sub (.var 0 "value" ⟨113, 30, 113, 35⟩) (.bin .Add false (.var 3 "k" ⟨113, 36, 113, 37⟩) (.int 1 0 ⟨113, 40, 113, 41⟩) ⟨113, 36, 113, 41⟩) ⟨113, 30, 113, 42⟩) (.int 0 0 ⟨113, 43, 113, 44⟩) ⟨113, 30, 113, 45⟩) ⟨113, 16, 113, 45⟩) (.var 3 "k" ⟨113, 50, 113, 51⟩) (.rng (.cons (.bin .Sub false (.bif .len false (.cons (.var 0 "value" ⟨113, 65, 113, 70⟩) .nil) ⟨113, 61, 113, 64⟩ ⟨113, 61, 113, 71⟩) (.int 1 0 ⟨113, 74, 113, 75⟩) ⟨113, 61, 113, 75⟩) .nil) ⟨113, 55, 113, 60⟩ ⟨113, 55, 113, 76⟩) .none [("k", 3)] ⟨.function, [(".0", .local), ("k", .local), ("value", .free)], false, false, []⟩ ⟨113, 15, 113, 77⟩) .nil) ⟨113, 11, 113, 14⟩ ⟨113, 11, 113, 78⟩) ⟨113, 4, 113, 78⟩)
def f21_b : S := .seq f21_0 (.seq f21_1 .skip)
/-- are_limits -/
def f21 : FEnt := ⟨none, "are_limits", "are_limits", ["value", "count"], ["value", "count", "limit", "k"], f21_b, false, "are_limits", ⟨[], [⟨"value", none, ⟨110, 15, 110, 20⟩⟩, ⟨"count", none, ⟨110, 22, 110, 27⟩⟩], none, [], [], none, []⟩, ⟨.function, [("value", .cell), ("count", .cell), ("isinstance", .globalImplicit), ("tuple", .globalImplicit), ("all", .globalImplicit), ("range", .globalImplicit), ("len", .globalImplicit)], false, false, [("fast", .str "value"), ("fast", .str "count"), ("fast", .str "limit"), ("fast", .str "k")]⟩⟩
def f22_0 : S := (.asg (.var 3 "told" ⟨115, 4, 115, 8⟩) (.bin .Mult false (.lst false (.cons (.tup .nil 0 ⟨115, 12, 115, 14⟩) .nil) ⟨115, 11, 115, 15⟩) (.bif .len false (.cons (.cal 7 "inputs_of" (.cons (.var 0 "sizes" ⟨115, 32, 115, 37⟩) .nil) .nil [] ⟨115, 22, 115, 31⟩ ⟨115, 22, 115, 38⟩) .nil) ⟨115, 18, 115, 21⟩ ⟨115, 18, 115, 39⟩) ⟨115, 11, 115, 39⟩) ⟨115, 4, 115, 39⟩)
def f22_1 : S := (.for_ (.var 4 "joint" ⟨116, 8, 116, 13⟩) (.exp (.var 1 "joints" ⟨116, 17, 116, 23⟩)) (.seq (.asg (.var 3 "told" ⟨117, 8, 117, 12⟩) (.lc false (.bin .Add false (.var 5 "one" ⟨117, 16, 117, 19⟩) (.tup (.cons (.var 6 "answer" ⟨117, 23, 117, 29⟩) .nil) 0 ⟨117, 22, 117, 31⟩) ⟨117, 16, 117, 31⟩) (.tup (.cons (.var 5 "one" ⟨117, 36, 117, 39⟩) (.cons (.var 6 "answer" ⟨117, 41, 117, 47⟩) .nil)) 0 ⟨117, 36, 117, 47⟩) (.zip (.var 3 "told" ⟨117, 55, 117, 59⟩) (.cal 18 "answers_of" (.cons (.var 4 "joint" ⟨117, 72, 117, 77⟩) (.cons (.var 2 "lot" ⟨117, 79, 117, 82⟩) .nil)) .nil [] ⟨117, 61, 117, 71⟩ ⟨117, 61, 117, 83⟩) ⟨117, 51, 117, 54⟩ ⟨117, 51, 117, 84⟩) .none [("one", 5), ("answer", 6)] ⟨.function, [(".0", .local), ("one", .local), ("answer", .local)], false, false, []⟩ ⟨117, 15, 117, 85⟩) ⟨117, 8, 117, 85⟩) .skip) ⟨116, 4, 117, 85⟩)
def f22_2 : S := (.ret (.cal 19 "groups_of" (.cons (.var 3 "told" ⟨118, 21, 118, 25⟩) .nil) .nil [] ⟨118, 11, 118, 20⟩ ⟨118, 11, 118, 26⟩) ⟨118, 4, 118, 26⟩)
def f22_b : S := .seq f22_0 (.seq f22_1 (.seq f22_2 .skip))
/-- classes_by -/
def f22 : FEnt := ⟨none, "classes_by", "classes_by", ["sizes", "joints", "lot"], ["sizes", "joints", "lot", "told", "joint", "one", "answer"], f22_b, false, "classes_by", ⟨[], [⟨"sizes", none, ⟨114, 15, 114, 20⟩⟩, ⟨"joints", none, ⟨114, 22, 114, 28⟩⟩, ⟨"lot", none, ⟨114, 30, 114, 33⟩⟩], none, [], [], none, []⟩, ⟨.function, [("sizes", .local), ("joints", .local), ("lot", .local), ("told", .local), ("joint", .local), ("len", .globalImplicit), ("inputs_of", .globalImplicit), ("zip", .globalImplicit), ("answers_of", .globalImplicit), ("groups_of", .globalImplicit)], false, false, [("fast", .str "sizes"), ("fast", .str "joints"), ("fast", .str "lot"), ("fast", .str "told"), ("fast", .str "joint"), ("fast", .str "one"), ("fast", .str "answer")]⟩⟩
def f23_0 : S := (.ite (.nott (.cal 6 "are_sizes" (.cons (.var 1 "sizes" ⟨122, 25, 122, 30⟩) (.cons (.glo "MOST_SIZE" ⟨122, 32, 122, 41⟩) .nil)) .nil [] ⟨122, 15, 122, 24⟩ ⟨122, 15, 122, 42⟩) ⟨122, 11, 122, 42⟩) (.seq (.rai "InvalidJoint" "not the sizes of a joint table" 0 ⟨123, 18, 123, 30⟩ ⟨123, 31, 123, 63⟩ ⟨123, 18, 123, 64⟩ ⟨123, 12, 123, 64⟩) .skip) .skip ⟨122, 8, 123, 64⟩)
def f23_1 : S := (.ite (.nott (.cal 21 "are_limits" (.cons (.var 2 "limits" ⟨124, 26, 124, 32⟩) (.cons (.bif .len false (.cons (.var 1 "sizes" ⟨124, 38, 124, 43⟩) .nil) ⟨124, 34, 124, 37⟩ ⟨124, 34, 124, 44⟩) .nil)) .nil [] ⟨124, 15, 124, 25⟩ ⟨124, 15, 124, 45⟩) ⟨124, 11, 124, 45⟩) (.seq (.rai "InvalidLimits" "not limits" 0 ⟨125, 18, 125, 31⟩ ⟨125, 32, 125, 44⟩ ⟨125, 18, 125, 45⟩ ⟨125, 12, 125, 45⟩) .skip) .skip ⟨124, 8, 125, 45⟩)
def f23_2 : S := (.asg (.fld (.var 0 "self" ⟨126, 8, 126, 12⟩) "sizes" ⟨126, 8, 126, 18⟩) (.var 1 "sizes" ⟨126, 21, 126, 26⟩) ⟨126, 8, 126, 26⟩)
def f23_3 : S := (.asg (.fld (.var 0 "self" ⟨127, 8, 127, 12⟩) "limits" ⟨127, 8, 127, 19⟩) (.var 2 "limits" ⟨127, 22, 127, 28⟩) ⟨127, 8, 127, 28⟩)
def f23_4 : S := (.asg (.fld (.var 0 "self" ⟨128, 8, 128, 12⟩) "names" ⟨128, 8, 128, 18⟩) (.tup .nil 0 ⟨128, 21, 128, 23⟩) ⟨128, 8, 128, 23⟩)
def f23_5 : S := (.asg (.fld (.var 0 "self" ⟨129, 8, 129, 12⟩) "kept" ⟨129, 8, 129, 17⟩) (.tup .nil 0 ⟨129, 20, 129, 22⟩) ⟨129, 8, 129, 22⟩)
def f23_6 : S := (.asg (.fld (.var 0 "self" ⟨130, 8, 130, 12⟩) "past" ⟨130, 8, 130, 17⟩) (.lst true .nil ⟨130, 20, 130, 22⟩) ⟨130, 8, 130, 22⟩)
def f23_b : S := .seq f23_0 (.seq f23_1 (.seq f23_2 (.seq f23_3 (.seq f23_4 (.seq f23_5 (.seq f23_6 .skip))))))
/-- LeakLedger.__init__ -/
def f23 : FEnt := ⟨some "LeakLedger", "__init__", "", ["self", "sizes", "limits"], ["self", "sizes", "limits"], f23_b, false, "LeakLedger.__init__", ⟨[], [⟨"self", none, ⟨121, 17, 121, 21⟩⟩, ⟨"sizes", none, ⟨121, 23, 121, 28⟩⟩, ⟨"limits", none, ⟨121, 30, 121, 36⟩⟩], none, [], [], none, []⟩, ⟨.function, [("self", .local), ("sizes", .local), ("limits", .local), ("are_sizes", .globalImplicit), ("MOST_SIZE", .globalImplicit), ("InvalidJoint", .globalImplicit), ("are_limits", .globalImplicit), ("len", .globalImplicit), ("InvalidLimits", .globalImplicit)], false, false, []⟩⟩
def f24_0 : S := (.ret (.bif .len false (.cons (.fld (.var 0 "self" ⟨133, 19, 133, 23⟩) "names" ⟨133, 19, 133, 29⟩) .nil) ⟨133, 15, 133, 18⟩ ⟨133, 15, 133, 30⟩) ⟨133, 8, 133, 30⟩)
def f24_b : S := .seq f24_0 .skip
/-- LeakLedger.__len__ -/
def f24 : FEnt := ⟨some "LeakLedger", "__len__", "", ["self"], ["self"], f24_b, false, "LeakLedger.__len__", ⟨[], [⟨"self", none, ⟨132, 16, 132, 20⟩⟩], none, [], [], none, []⟩, ⟨.function, [("self", .local), ("len", .globalImplicit)], false, false, []⟩⟩
def f25_0 : S := (.ite (.or_ (.cons (.nott (.cal 9 "is_joint" (.cons (.var 1 "joint" ⟨136, 24, 136, 29⟩) .nil) .nil [] ⟨136, 15, 136, 23⟩ ⟨136, 15, 136, 30⟩) ⟨136, 11, 136, 30⟩) (.cons (.cmp .NotEq (.sub (.var 1 "joint" ⟨136, 34, 136, 39⟩) (.int 0 0 ⟨136, 40, 136, 41⟩) ⟨136, 34, 136, 42⟩) (.fld (.var 0 "self" ⟨136, 46, 136, 50⟩) "sizes" ⟨136, 46, 136, 56⟩) ⟨136, 34, 136, 56⟩) .nil)) ⟨136, 11, 136, 56⟩) (.seq (.rai "InvalidJoint" "not a joint table of the sizes" 0 ⟨137, 18, 137, 30⟩ ⟨137, 31, 137, 63⟩ ⟨137, 18, 137, 64⟩ ⟨137, 12, 137, 64⟩) .skip) .skip ⟨136, 8, 137, 64⟩)
def f25_b : S := .seq f25_0 .skip
/-- LeakLedger.check_joint -/
def f25 : FEnt := ⟨some "LeakLedger", "check_joint", "", ["self", "joint"], ["self", "joint"], f25_b, false, "LeakLedger.check_joint", ⟨[], [⟨"self", none, ⟨135, 20, 135, 24⟩⟩, ⟨"joint", none, ⟨135, 26, 135, 31⟩⟩], none, [], [], none, []⟩, ⟨.function, [("self", .local), ("joint", .local), ("is_joint", .globalImplicit), ("InvalidJoint", .globalImplicit)], false, false, []⟩⟩
def f26_0 : S := (.asg (.var 2 "found" ⟨140, 8, 140, 13⟩) (.lst true .nil ⟨140, 16, 140, 18⟩) ⟨140, 8, 140, 18⟩)
def f26_1 : S := (.for_ (.tup (.cons (.var 3 "lot" ⟨141, 12, 141, 15⟩) (.cons (.var 4 "most" ⟨141, 17, 141, 21⟩) .nil)) 0 ⟨141, 12, 141, 21⟩) (.exp (.fld (.var 0 "self" ⟨141, 25, 141, 29⟩) "limits" ⟨141, 25, 141, 36⟩)) (.seq (.ite (.cmp .Gt (.bif .len false (.cons (.cal 22 "classes_by" (.cons (.fld (.var 0 "self" ⟨142, 30, 142, 34⟩) "sizes" ⟨142, 30, 142, 40⟩) (.cons (.bin .Add false (.fld (.var 0 "self" ⟨142, 42, 142, 46⟩) "kept" ⟨142, 42, 142, 51⟩) (.tup (.cons (.var 1 "joint" ⟨142, 55, 142, 60⟩) .nil) 0 ⟨142, 54, 142, 62⟩) ⟨142, 42, 142, 62⟩) (.cons (.var 3 "lot" ⟨142, 64, 142, 67⟩) .nil))) .nil [] ⟨142, 19, 142, 29⟩ ⟨142, 19, 142, 68⟩) .nil) ⟨142, 15, 142, 18⟩ ⟨142, 15, 142, 69⟩) (.var 4 "most" ⟨142, 72, 142, 76⟩) ⟨142, 15, 142, 76⟩) (.seq (.exp (.mth .append (.var 2 "found" ⟨143, 16, 143, 21⟩) (.cons (.var 3 "lot" ⟨143, 29, 143, 32⟩) .nil) ⟨143, 16, 143, 28⟩ ⟨143, 16, 143, 33⟩) ⟨143, 16, 143, 33⟩) .skip) .skip ⟨142, 12, 143, 33⟩) .skip) ⟨141, 8, 143, 33⟩)
def f26_2 : S := (.ret (.bif .tuple false (.cons (.var 2 "found" ⟨144, 21, 144, 26⟩) .nil) ⟨144, 15, 144, 20⟩ ⟨144, 15, 144, 27⟩) ⟨144, 8, 144, 27⟩)
def f26_b : S := .seq f26_0 (.seq f26_1 (.seq f26_2 .skip))
/-- LeakLedger.over -/
def f26 : FEnt := ⟨some "LeakLedger", "over", "", ["self", "joint"], ["self", "joint", "found", "lot", "most"], f26_b, false, "LeakLedger.over", ⟨[], [⟨"self", none, ⟨139, 13, 139, 17⟩⟩, ⟨"joint", none, ⟨139, 19, 139, 24⟩⟩], none, [], [], none, []⟩, ⟨.function, [("self", .local), ("joint", .local), ("found", .local), ("lot", .local), ("most", .local), ("len", .globalImplicit), ("classes_by", .globalImplicit), ("tuple", .globalImplicit)], false, false, []⟩⟩
def f27_0 : S := (.exp (.mth .append (.fld (.var 0 "self" ⟨147, 8, 147, 12⟩) "past" ⟨147, 8, 147, 17⟩) (.cons (.tup (.cons (.var 1 "word" ⟨147, 26, 147, 30⟩) (.cons (.fld (.var 0 "self" ⟨147, 32, 147, 36⟩) "names" ⟨147, 32, 147, 42⟩) (.cons (.fld (.var 0 "self" ⟨147, 44, 147, 48⟩) "kept" ⟨147, 44, 147, 53⟩) .nil))) 0 ⟨147, 25, 147, 54⟩) .nil) ⟨147, 8, 147, 24⟩ ⟨147, 8, 147, 55⟩) ⟨147, 8, 147, 55⟩)
def f27_1 : S := (.asg (.fld (.var 0 "self" ⟨148, 8, 148, 12⟩) "names" ⟨148, 8, 148, 18⟩) (.var 2 "names" ⟨148, 21, 148, 26⟩) ⟨148, 8, 148, 26⟩)
def f27_2 : S := (.asg (.fld (.var 0 "self" ⟨149, 8, 149, 12⟩) "kept" ⟨149, 8, 149, 17⟩) (.var 3 "kept" ⟨149, 20, 149, 24⟩) ⟨149, 8, 149, 24⟩)
def f27_b : S := .seq f27_0 (.seq f27_1 (.seq f27_2 .skip))
/-- LeakLedger.change -/
def f27 : FEnt := ⟨some "LeakLedger", "change", "", ["self", "word", "names", "kept"], ["self", "word", "names", "kept"], f27_b, false, "LeakLedger.change", ⟨[], [⟨"self", none, ⟨146, 15, 146, 19⟩⟩, ⟨"word", none, ⟨146, 21, 146, 25⟩⟩, ⟨"names", none, ⟨146, 27, 146, 32⟩⟩, ⟨"kept", none, ⟨146, 34, 146, 38⟩⟩], none, [], [], none, []⟩, ⟨.function, [("self", .local), ("word", .local), ("names", .local), ("kept", .local)], false, false, []⟩⟩
def f28_0 : S := (.exp (.cal 2 "check_name" (.cons (.var 1 "name" ⟨152, 19, 152, 23⟩) .nil) .nil [] ⟨152, 8, 152, 18⟩ ⟨152, 8, 152, 24⟩) ⟨152, 8, 152, 24⟩)
def f28_1 : S := (.exp (.mcl 25 "LeakLedger" "check_joint" (.var 0 "self" ⟨153, 8, 153, 12⟩) (.cons (.var 2 "joint" ⟨153, 25, 153, 30⟩) .nil) .nil [] ⟨153, 8, 153, 24⟩ ⟨153, 8, 153, 31⟩) ⟨153, 8, 153, 31⟩)
def f28_2 : S := (.ite (.cmp .In (.var 1 "name" ⟨154, 11, 154, 15⟩) (.fld (.var 0 "self" ⟨154, 19, 154, 23⟩) "names" ⟨154, 19, 154, 29⟩) ⟨154, 11, 154, 29⟩) (.seq (.raf "Taken" "name" (.var 1 "name" ⟨155, 24, 155, 28⟩) ⟨155, 18, 155, 23⟩ ⟨155, 18, 155, 29⟩ ⟨155, 12, 155, 29⟩) .skip) .skip ⟨154, 8, 155, 29⟩)
def f28_3 : S := (.asg (.var 3 "over" ⟨156, 8, 156, 12⟩) (.mcl 26 "LeakLedger" "over" (.var 0 "self" ⟨156, 15, 156, 19⟩) (.cons (.var 2 "joint" ⟨156, 25, 156, 30⟩) .nil) .nil [] ⟨156, 15, 156, 24⟩ ⟨156, 15, 156, 31⟩) ⟨156, 8, 156, 31⟩)
def f28_4 : S := (.ite (.var 3 "over" ⟨157, 11, 157, 15⟩) (.seq (.raf "TooMuch" "lot" (.sub (.var 3 "over" ⟨158, 26, 158, 30⟩) (.int 0 0 ⟨158, 31, 158, 32⟩) ⟨158, 26, 158, 33⟩) ⟨158, 18, 158, 25⟩ ⟨158, 18, 158, 34⟩ ⟨158, 12, 158, 34⟩) .skip) .skip ⟨157, 8, 158, 34⟩)
def f28_5 : S := (.exp (.mcl 27 "LeakLedger" "change" (.var 0 "self" ⟨159, 8, 159, 12⟩) (.cons (.str "tell" 0 ⟨159, 20, 159, 26⟩) (.cons (.bin .Add false (.fld (.var 0 "self" ⟨159, 28, 159, 32⟩) "names" ⟨159, 28, 159, 38⟩) (.tup (.cons (.var 1 "name" ⟨159, 42, 159, 46⟩) .nil) 0 ⟨159, 41, 159, 48⟩) ⟨159, 28, 159, 48⟩) (.cons (.bin .Add false (.fld (.var 0 "self" ⟨159, 50, 159, 54⟩) "kept" ⟨159, 50, 159, 59⟩) (.tup (.cons (.var 2 "joint" ⟨159, 63, 159, 68⟩) .nil) 0 ⟨159, 62, 159, 70⟩) ⟨159, 50, 159, 70⟩) .nil))) .nil [] ⟨159, 8, 159, 19⟩ ⟨159, 8, 159, 71⟩) ⟨159, 8, 159, 71⟩)
def f28_b : S := .seq f28_0 (.seq f28_1 (.seq f28_2 (.seq f28_3 (.seq f28_4 (.seq f28_5 .skip)))))
/-- LeakLedger.tell -/
def f28 : FEnt := ⟨some "LeakLedger", "tell", "", ["self", "name", "joint"], ["self", "name", "joint", "over"], f28_b, false, "LeakLedger.tell", ⟨[], [⟨"self", none, ⟨151, 13, 151, 17⟩⟩, ⟨"name", none, ⟨151, 19, 151, 23⟩⟩, ⟨"joint", none, ⟨151, 25, 151, 30⟩⟩], none, [], [], none, []⟩, ⟨.function, [("self", .local), ("name", .local), ("joint", .local), ("over", .local), ("check_name", .globalImplicit), ("Taken", .globalImplicit), ("TooMuch", .globalImplicit)], false, false, []⟩⟩
def f29_0 : S := (.ite (.or_ (.cons (.nott (.cal 1 "is_name" (.cons (.var 1 "name" ⟨162, 23, 162, 27⟩) .nil) .nil [] ⟨162, 15, 162, 22⟩ ⟨162, 15, 162, 28⟩) ⟨162, 11, 162, 28⟩) (.cons (.cmp .NotIn (.var 1 "name" ⟨162, 32, 162, 36⟩) (.fld (.var 0 "self" ⟨162, 44, 162, 48⟩) "names" ⟨162, 44, 162, 54⟩) ⟨162, 32, 162, 54⟩) .nil)) ⟨162, 11, 162, 54⟩) (.seq (.raf "Unknown" "name" (.var 1 "name" ⟨163, 26, 163, 30⟩) ⟨163, 18, 163, 25⟩ ⟨163, 18, 163, 31⟩ ⟨163, 12, 163, 31⟩) .skip) .skip ⟨162, 8, 163, 31⟩)
def f29_1 : S := (.asg (.var 2 "at" ⟨164, 8, 164, 10⟩) (.mth .index (.fld (.var 0 "self" ⟨164, 13, 164, 17⟩) "names" ⟨164, 13, 164, 23⟩) (.cons (.var 1 "name" ⟨164, 30, 164, 34⟩) .nil) ⟨164, 13, 164, 29⟩ ⟨164, 13, 164, 35⟩) ⟨164, 8, 164, 35⟩)
def f29_2 : S := (.exp (.mcl 27 "LeakLedger" "change" (.var 0 "self" ⟨165, 8, 165, 12⟩) (.cons (.str "drop" 0 ⟨165, 20, 165, 26⟩) (.cons (.bin .Add false (.slc false (.fld (.var 0 "self" ⟨165, 28, 165, 32⟩) "names" ⟨165, 28, 165, 38⟩) .none (.some (.var 2 "at" ⟨165, 40, 165, 42⟩)) ⟨165, 39, 165, 42⟩ ⟨165, 28, 165, 43⟩) (.slc false (.fld (.var 0 "self" ⟨165, 46, 165, 50⟩) "names" ⟨165, 46, 165, 56⟩) (.some (.bin .Add false (.var 2 "at" ⟨165, 57, 165, 59⟩) (.int 1 0 ⟨165, 62, 165, 63⟩) ⟨165, 57, 165, 63⟩)) .none ⟨165, 57, 165, 64⟩ ⟨165, 46, 165, 65⟩) ⟨165, 28, 165, 65⟩) (.cons (.bin .Add false (.slc false (.fld (.var 0 "self" ⟨165, 67, 165, 71⟩) "kept" ⟨165, 67, 165, 76⟩) .none (.some (.var 2 "at" ⟨165, 78, 165, 80⟩)) ⟨165, 77, 165, 80⟩ ⟨165, 67, 165, 81⟩) (.slc false (.fld (.var 0 "self" ⟨165, 84, 165, 88⟩) "kept" ⟨165, 84, 165, 93⟩) (.some (.bin .Add false (.var 2 "at" ⟨165, 94, 165, 96⟩) (.int 1 0 ⟨165, 99, 165, 100⟩) ⟨165, 94, 165, 100⟩)) .none ⟨165, 94, 165, 101⟩ ⟨165, 84, 165, 102⟩) ⟨165, 67, 165, 102⟩) .nil))) .nil [] ⟨165, 8, 165, 19⟩ ⟨165, 8, 165, 103⟩) ⟨165, 8, 165, 103⟩)
def f29_b : S := .seq f29_0 (.seq f29_1 (.seq f29_2 .skip))
/-- LeakLedger.drop -/
def f29 : FEnt := ⟨some "LeakLedger", "drop", "", ["self", "name"], ["self", "name", "at"], f29_b, false, "LeakLedger.drop", ⟨[], [⟨"self", none, ⟨161, 13, 161, 17⟩⟩, ⟨"name", none, ⟨161, 19, 161, 23⟩⟩], none, [], [], none, []⟩, ⟨.function, [("self", .local), ("name", .local), ("at", .local), ("is_name", .globalImplicit), ("Unknown", .globalImplicit)], false, false, []⟩⟩
def f30_0 : S := (.ite (.nott (.fld (.var 0 "self" ⟨168, 15, 168, 19⟩) "past" ⟨168, 15, 168, 24⟩) ⟨168, 11, 168, 24⟩) (.seq (.rai "NothingToUndo" "nothing was done" 0 ⟨169, 18, 169, 31⟩ ⟨169, 32, 169, 50⟩ ⟨169, 18, 169, 51⟩ ⟨169, 12, 169, 51⟩) .skip) .skip ⟨168, 8, 169, 51⟩)
def f30_1 : S := (.asg (.tup (.cons (.var 1 "word" ⟨170, 8, 170, 12⟩) (.cons (.fld (.var 0 "self" ⟨170, 14, 170, 18⟩) "names" ⟨170, 14, 170, 24⟩) (.cons (.fld (.var 0 "self" ⟨170, 26, 170, 30⟩) "kept" ⟨170, 26, 170, 35⟩) .nil))) 0 ⟨170, 8, 170, 35⟩) (.mth .pop0 (.fld (.var 0 "self" ⟨170, 38, 170, 42⟩) "past" ⟨170, 38, 170, 47⟩) .nil ⟨170, 38, 170, 51⟩ ⟨170, 38, 170, 53⟩) ⟨170, 8, 170, 53⟩)
def f30_2 : S := (.ret (.var 1 "word" ⟨171, 15, 171, 19⟩) ⟨171, 8, 171, 19⟩)
def f30_b : S := .seq f30_0 (.seq f30_1 (.seq f30_2 .skip))
/-- LeakLedger.undo -/
def f30 : FEnt := ⟨some "LeakLedger", "undo", "", ["self"], ["self", "word"], f30_b, false, "LeakLedger.undo", ⟨[], [⟨"self", none, ⟨167, 13, 167, 17⟩⟩], none, [], [], none, []⟩, ⟨.function, [("self", .local), ("word", .local), ("NothingToUndo", .globalImplicit)], false, false, []⟩⟩
def f31_0 : S := (.ret (.fld (.var 0 "self" ⟨174, 15, 174, 19⟩) "kept" ⟨174, 15, 174, 24⟩) ⟨174, 8, 174, 24⟩)
def f31_b : S := .seq f31_0 .skip
/-- LeakLedger.joints -/
def f31 : FEnt := ⟨some "LeakLedger", "joints", "", ["self"], ["self"], f31_b, false, "LeakLedger.joints", ⟨[], [⟨"self", none, ⟨173, 15, 173, 19⟩⟩], none, [], [], none, []⟩, ⟨.function, [("self", .local)], false, false, []⟩⟩
def f32_0 : S := (.exp (.cal 11 "check_lot" (.cons (.var 1 "lot" ⟨177, 18, 177, 21⟩) (.cons (.bif .len false (.cons (.fld (.var 0 "self" ⟨177, 27, 177, 31⟩) "sizes" ⟨177, 27, 177, 37⟩) .nil) ⟨177, 23, 177, 26⟩ ⟨177, 23, 177, 38⟩) .nil)) .nil [] ⟨177, 8, 177, 17⟩ ⟨177, 8, 177, 39⟩) ⟨177, 8, 177, 39⟩)
def f32_1 : S := (.ret (.cal 22 "classes_by" (.cons (.fld (.var 0 "self" ⟨178, 26, 178, 30⟩) "sizes" ⟨178, 26, 178, 36⟩) (.cons (.fld (.var 0 "self" ⟨178, 38, 178, 42⟩) "kept" ⟨178, 38, 178, 47⟩) (.cons (.var 1 "lot" ⟨178, 49, 178, 52⟩) .nil))) .nil [] ⟨178, 15, 178, 25⟩ ⟨178, 15, 178, 53⟩) ⟨178, 8, 178, 53⟩)
def f32_b : S := .seq f32_0 (.seq f32_1 .skip)
/-- LeakLedger.classes -/
def f32 : FEnt := ⟨some "LeakLedger", "classes", "", ["self", "lot"], ["self", "lot"], f32_b, false, "LeakLedger.classes", ⟨[], [⟨"self", none, ⟨176, 16, 176, 20⟩⟩, ⟨"lot", none, ⟨176, 22, 176, 25⟩⟩], none, [], [], none, []⟩, ⟨.function, [("self", .local), ("lot", .local), ("check_lot", .globalImplicit), ("len", .globalImplicit), ("classes_by", .globalImplicit)], false, false, []⟩⟩
def f33_0 : S := (.asg (.var 2 "limits" ⟨181, 8, 181, 14⟩) (.bif .dict false (.cons (.fld (.var 0 "self" ⟨181, 22, 181, 26⟩) "limits" ⟨181, 22, 181, 33⟩) .nil) ⟨181, 17, 181, 21⟩ ⟨181, 17, 181, 34⟩) ⟨181, 8, 181, 34⟩)
def f33_1 : S := (.asg (.var 3 "classes" ⟨182, 8, 182, 15⟩) (.mcl 32 "LeakLedger" "classes" (.var 0 "self" ⟨182, 18, 182, 22⟩) (.cons (.var 1 "lot" ⟨182, 31, 182, 34⟩) .nil) .nil [] ⟨182, 18, 182, 30⟩ ⟨182, 18, 182, 35⟩) ⟨182, 8, 182, 35⟩)
def f33_2 : S := (.ret (.ite (.cmp .In (.var 1 "lot" ⟨183, 45, 183, 48⟩) (.var 2 "limits" ⟨183, 52, 183, 58⟩) ⟨183, 45, 183, 58⟩) (.bin .Sub false (.sub (.var 2 "limits" ⟨183, 15, 183, 21⟩) (.var 1 "lot" ⟨183, 22, 183, 25⟩) ⟨183, 15, 183, 26⟩) (.bif .len false (.cons (.var 3 "classes" ⟨183, 33, 183, 40⟩) .nil) ⟨183, 29, 183, 32⟩ ⟨183, 29, 183, 41⟩) ⟨183, 15, 183, 41⟩) (.non 0 ⟨183, 64, 183, 68⟩) ⟨183, 15, 183, 68⟩) ⟨183, 8, 183, 68⟩)
def f33_b : S := .seq f33_0 (.seq f33_1 (.seq f33_2 .skip))
/-- LeakLedger.rest -/
def f33 : FEnt := ⟨some "LeakLedger", "rest", "", ["self", "lot"], ["self", "lot", "limits", "classes"], f33_b, false, "LeakLedger.rest", ⟨[], [⟨"self", none, ⟨180, 13, 180, 17⟩⟩, ⟨"lot", none, ⟨180, 19, 180, 22⟩⟩], none, [], [], none, []⟩, ⟨.function, [("self", .local), ("lot", .local), ("limits", .local), ("classes", .local), ("dict", .globalImplicit), ("len", .globalImplicit)], false, false, []⟩⟩
def f34_0 : S := (.asg (.var 3 "classes" ⟨186, 8, 186, 15⟩) (.mcl 32 "LeakLedger" "classes" (.var 0 "self" ⟨186, 18, 186, 22⟩) (.cons (.var 1 "lot" ⟨186, 31, 186, 34⟩) .nil) .nil [] ⟨186, 18, 186, 30⟩ ⟨186, 18, 186, 35⟩) ⟨186, 8, 186, 35⟩)
def f34_1 : S := (.exp (.cal 13 "check_inputs" (.cons (.var 2 "inputs" ⟨187, 21, 187, 27⟩) (.cons (.fld (.var 0 "self" ⟨187, 29, 187, 33⟩) "sizes" ⟨187, 29, 187, 39⟩) .nil)) .nil [] ⟨187, 8, 187, 20⟩ ⟨187, 8, 187, 40⟩) ⟨187, 8, 187, 40⟩)
def f34_2 : S := (.asg (.var 4 "place" ⟨188, 8, 188, 13⟩) (.cal 14 "place_of" (.cons (.fld (.var 0 "self" ⟨188, 25, 188, 29⟩) "sizes" ⟨188, 25, 188, 35⟩) (.cons (.var 2 "inputs" ⟨188, 37, 188, 43⟩) .nil)) .nil [] ⟨188, 16, 188, 24⟩ ⟨188, 16, 188, 44⟩) ⟨188, 8, 188, 44⟩)
def f34_3 : S := (.asg (.var 5 "whole" ⟨189, 8, 189, 13⟩) (.cal 7 "inputs_of" (.cons (.fld (.var 0 "self" ⟨189, 26, 189, 30⟩) "sizes" ⟨189, 26, 189, 36⟩) .nil) .nil [] ⟨189, 16, 189, 25⟩ ⟨189, 16, 189, 37⟩) ⟨189, 8, 189, 37⟩)
def f34_4 : S := (.ret (.bif .tuple false (.cons (.lc false (.sub (.var 5 "whole" ⟨190, 22, 190, 27⟩) (.var 6 "other" ⟨190, 28, 190, 33⟩) ⟨190, 22, 190, 34⟩) (.var 6 "other" ⟨190, 39, 190, 44⟩) (.exp (.sub (.lc false (.var 7 "one" ⟨190, 49, 190, 52⟩) (.var 7 "one" ⟨190, 57, 190, 60⟩) (.exp (.var 3 "classes" ⟨190, 64, 190, 71⟩)) (.some (.cmp .In (.var 4 "place" ⟨190, 75, 190, 80⟩) (.var 7 "one" ⟨190, 84, 190, 87⟩) ⟨190, 75, 190, 87⟩)) [("one", 7)] ⟨.function, [(".0", .local), ("one", .local), ("place", .free)], false, false, []⟩ ⟨190, 48, 190, 88⟩) (.int 0 0 ⟨190, 89, 190, 90⟩) ⟨190, 48, 190, 91⟩)) .none [("other", 6)] ⟨.function, [(".0", .local), ("other", .local), ("whole", .free)], false, false, []⟩ ⟨190, 21, 190, 92⟩) .nil) ⟨190, 15, 190, 20⟩ ⟨190, 15, 190, 93⟩) ⟨190, 8, 190, 93⟩)
def f34_b : S := .seq f34_0 (.seq f34_1 (.seq f34_2 (.seq f34_3 (.seq f34_4 .skip))))
/-- LeakLedger.possible -/
def f34 : FEnt := ⟨some "LeakLedger", "possible", "", ["self", "lot", "inputs"], ["self", "lot", "inputs", "classes", "place", "whole", "other", "one"], f34_b, false, "LeakLedger.possible", ⟨[], [⟨"self", none, ⟨185, 17, 185, 21⟩⟩, ⟨"lot", none, ⟨185, 23, 185, 26⟩⟩, ⟨"inputs", none, ⟨185, 28, 185, 34⟩⟩], none, [], [], none, []⟩, ⟨.function, [("self", .local), ("lot", .local), ("inputs", .local), ("classes", .local), ("place", .cell), ("whole", .cell), ("check_inputs", .globalImplicit), ("place_of", .globalImplicit), ("inputs_of", .globalImplicit), ("tuple", .globalImplicit)], false, false, [("fast", .str "self"), ("fast", .str "lot"), ("fast", .str "inputs"), ("fast", .str "classes"), ("fast", .str "place"), ("fast", .str "whole"), ("fast", .str "one"), ("fast", .str "other")]⟩⟩
def f35_0 : S := (.exp (.mcl 25 "LeakLedger" "check_joint" (.var 0 "self" ⟨193, 8, 193, 12⟩) (.cons (.var 1 "joint" ⟨193, 25, 193, 30⟩) .nil) .nil [] ⟨193, 8, 193, 24⟩ ⟨193, 8, 193, 31⟩) ⟨193, 8, 193, 31⟩)
def f35_1 : S := (.ret (.mcl 26 "LeakLedger" "over" (.var 0 "self" ⟨194, 15, 194, 19⟩) (.cons (.var 1 "joint" ⟨194, 25, 194, 30⟩) .nil) .nil [] ⟨194, 15, 194, 24⟩ ⟨194, 15, 194, 31⟩) ⟨194, 8, 194, 31⟩)
def f35_b : S := .seq f35_0 (.seq f35_1 .skip)
/-- LeakLedger.would -/
def f35 : FEnt := ⟨some "LeakLedger", "would", "", ["self", "joint"], ["self", "joint"], f35_b, false, "LeakLedger.would", ⟨[], [⟨"self", none, ⟨192, 14, 192, 18⟩⟩, ⟨"joint", none, ⟨192, 20, 192, 25⟩⟩], none, [], [], none, []⟩, ⟨.function, [("self", .local), ("joint", .local)], false, false, []⟩⟩
def f36_0 : S := (.asg (.var 1 "other" ⟨197, 8, 197, 13⟩) (.new 0 "LeakLedger" (.cons (.fld (.var 0 "self" ⟨197, 27, 197, 31⟩) "sizes" ⟨197, 27, 197, 37⟩) (.cons (.fld (.var 0 "self" ⟨197, 39, 197, 43⟩) "limits" ⟨197, 39, 197, 50⟩) .nil)) .nil [] ⟨197, 16, 197, 26⟩ ⟨197, 16, 197, 51⟩) ⟨197, 8, 197, 51⟩)
def f36_1 : S := (.asg (.fld (.var 1 "other" ⟨198, 8, 198, 13⟩) "names" ⟨198, 8, 198, 19⟩) (.fld (.var 0 "self" ⟨198, 22, 198, 26⟩) "names" ⟨198, 22, 198, 32⟩) ⟨198, 8, 198, 32⟩)
def f36_2 : S := (.asg (.fld (.var 1 "other" ⟨199, 8, 199, 13⟩) "kept" ⟨199, 8, 199, 18⟩) (.fld (.var 0 "self" ⟨199, 21, 199, 25⟩) "kept" ⟨199, 21, 199, 30⟩) ⟨199, 8, 199, 30⟩)
def f36_3 : S := (.asg (.fld (.var 1 "other" ⟨200, 8, 200, 13⟩) "past" ⟨200, 8, 200, 18⟩) (.bif .list true (.cons (.fld (.var 0 "self" ⟨200, 26, 200, 30⟩) "past" ⟨200, 26, 200, 35⟩) .nil) ⟨200, 21, 200, 25⟩ ⟨200, 21, 200, 36⟩) ⟨200, 8, 200, 36⟩)
def f36_4 : S := (.ret (.var 1 "other" ⟨201, 15, 201, 20⟩) ⟨201, 8, 201, 20⟩)
def f36_b : S := .seq f36_0 (.seq f36_1 (.seq f36_2 (.seq f36_3 (.seq f36_4 .skip))))
/-- LeakLedger.twin -/
def f36 : FEnt := ⟨some "LeakLedger", "twin", "", ["self"], ["self", "other"], f36_b, false, "LeakLedger.twin", ⟨[], [⟨"self", none, ⟨196, 13, 196, 17⟩⟩], none, [], [], none, []⟩, ⟨.function, [("self", .local), ("other", .local), ("LeakLedger", .globalImplicit), ("list", .globalImplicit)], false, false, []⟩⟩
def f37_0 : S := (.asg (.var 0 "cell" ⟨204, 4, 204, 8⟩) (.bif .int false (.cons (.var 0 "cell" ⟨204, 15, 204, 19⟩) .nil) ⟨204, 11, 204, 14⟩ ⟨204, 11, 204, 20⟩) ⟨204, 4, 204, 20⟩)
def f37_1 : S := (.ret (.lst true (.cons (.ite (.cmp .GtE (.var 0 "cell" ⟨205, 31, 205, 35⟩) (.bin .Pow false (.int 10 0 ⟨205, 39, 205, 41⟩) (.int 18 0 ⟨205, 45, 205, 47⟩) ⟨205, 39, 205, 47⟩) ⟨205, 31, 205, 47⟩) (.bin .Sub false (.var 0 "cell" ⟨205, 12, 205, 16⟩) (.bin .Pow false (.int 10 0 ⟨205, 19, 205, 21⟩) (.int 18 0 ⟨205, 25, 205, 27⟩) ⟨205, 19, 205, 27⟩) ⟨205, 12, 205, 27⟩) (.int 0 0 ⟨205, 53, 205, 54⟩) ⟨205, 12, 205, 54⟩) (.cons (.bin .Add false (.bin .Mod false (.bif .int false (.cons (.bin .Add false (.bin .Add false (.bin .Mult false (.var 0 "cell" ⟨205, 60, 205, 64⟩) (.var 0 "cell" ⟨205, 67, 205, 71⟩) ⟨205, 60, 205, 71⟩) (.bin .Mult false (.int 977 0 ⟨205, 74, 205, 77⟩) (.var 0 "cell" ⟨205, 80, 205, 84⟩) ⟨205, 74, 205, 84⟩) ⟨205, 60, 205, 84⟩) (.int 11 0 ⟨205, 87, 205, 89⟩) ⟨205, 60, 205, 89⟩) .nil) ⟨205, 56, 205, 59⟩ ⟨205, 56, 205, 90⟩) (.int 2305843009213693951 0 ⟨205, 93, 205, 112⟩) ⟨205, 56, 205, 112⟩) (.int 3 0 ⟨205, 115, 205, 116⟩) ⟨205, 56, 205, 116⟩) .nil)) ⟨205, 11, 205, 117⟩) ⟨205, 4, 205, 117⟩)
def f37_b : S := .seq f37_0 (.seq f37_1 .skip)
/-- _law_source -/
def f37 : FEnt := ⟨none, "_law_source", "_law_source", ["cell"], ["cell"], f37_b, false, "_law_source", ⟨[], [⟨"cell", none, ⟨203, 16, 203, 20⟩⟩], none, [], [], none, []⟩, ⟨.function, [("cell", .local), ("int", .globalImplicit)], false, false, []⟩⟩
def f38_0 : S := (.ite (.cmp .Gt (.sub (.var 0 "source" ⟨207, 7, 207, 13⟩) (.int 0 0 ⟨207, 14, 207, 15⟩) ⟨207, 7, 207, 16⟩) (.int 0 0 ⟨207, 19, 207, 20⟩) ⟨207, 7, 207, 20⟩) (.seq (.asg (.var 2 "found" ⟨208, 8, 208, 13⟩) (.bin .Mod false (.bif .int false (.cons (.sub (.var 0 "source" ⟨208, 20, 208, 26⟩) (.int 0 0 ⟨208, 27, 208, 28⟩) ⟨208, 20, 208, 29⟩) .nil) ⟨208, 16, 208, 19⟩ ⟨208, 16, 208, 30⟩) (.var 1 "many" ⟨208, 33, 208, 37⟩) ⟨208, 16, 208, 37⟩) ⟨208, 8, 208, 37⟩) (.seq (.asg (.sub (.var 0 "source" ⟨209, 8, 209, 14⟩) (.int 0 0 ⟨209, 15, 209, 16⟩) ⟨209, 8, 209, 17⟩) (.bin .FloorDiv false (.sub (.var 0 "source" ⟨209, 20, 209, 26⟩) (.int 0 0 ⟨209, 27, 209, 28⟩) ⟨209, 20, 209, 29⟩) (.var 1 "many" ⟨209, 33, 209, 37⟩) ⟨209, 20, 209, 37⟩) ⟨209, 8, 209, 37⟩) (.seq (.ret (.var 2 "found" ⟨210, 15, 210, 20⟩) ⟨210, 8, 210, 20⟩) .skip))) .skip ⟨207, 4, 210, 20⟩)
def f38_1 : S := (.asg (.sub (.var 0 "source" ⟨211, 4, 211, 10⟩) (.int 1 0 ⟨211, 11, 211, 12⟩) ⟨211, 4, 211, 13⟩) (.bin .Mod false (.bif .int false (.cons (.bin .Add false (.bin .Mult false (.sub (.var 0 "source" ⟨211, 20, 211, 26⟩) (.int 1 0 ⟨211, 27, 211, 28⟩) ⟨211, 20, 211, 29⟩) (.int 6364136223846793005 0 ⟨211, 32, 211, 51⟩) ⟨211, 20, 211, 51⟩) (.int 1442695040888963407 0 ⟨211, 54, 211, 73⟩) ⟨211, 20, 211, 73⟩) .nil) ⟨211, 16, 211, 19⟩ ⟨211, 16, 211, 74⟩) (.int 2305843009213693951 0 ⟨211, 77, 211, 96⟩) ⟨211, 16, 211, 96⟩) ⟨211, 4, 211, 96⟩)
def f38_2 : S := (.ret (.bin .Mod false (.bin .FloorDiv false (.bif .int false (.cons (.sub (.var 0 "source" ⟨212, 15, 212, 21⟩) (.int 1 0 ⟨212, 22, 212, 23⟩) ⟨212, 15, 212, 24⟩) .nil) ⟨212, 11, 212, 14⟩ ⟨212, 11, 212, 25⟩) (.int 65536 0 ⟨212, 29, 212, 34⟩) ⟨212, 11, 212, 34⟩) (.var 1 "many" ⟨212, 37, 212, 41⟩) ⟨212, 11, 212, 41⟩) ⟨212, 4, 212, 41⟩)
def f38_b : S := .seq f38_0 (.seq f38_1 (.seq f38_2 .skip))
/-- _law_pick -/
def f38 : FEnt := ⟨none, "_law_pick", "_law_pick", ["source", "many"], ["source", "many", "found"], f38_b, false, "_law_pick", ⟨[], [⟨"source", none, ⟨206, 14, 206, 20⟩⟩, ⟨"many", none, ⟨206, 22, 206, 26⟩⟩], none, [], [], none, []⟩, ⟨.function, [("source", .local), ("many", .local), ("found", .local), ("int", .globalImplicit)], false, false, []⟩⟩
def f39_0 : S := (.ite (.or_ (.cons (.isi (.var 1 "due" ⟨214, 18, 214, 21⟩) .tuple ⟨214, 23, 214, 28⟩ ⟨214, 7, 214, 17⟩ ⟨214, 7, 214, 29⟩) (.cons (.isi (.var 1 "due" ⟨214, 44, 214, 47⟩) .list ⟨214, 49, 214, 53⟩ ⟨214, 33, 214, 43⟩ ⟨214, 33, 214, 54⟩) .nil)) ⟨214, 7, 214, 54⟩) (.seq (.ite (.or_ (.cons (.cmp .NotEq (.isi (.var 1 "due" ⟨215, 22, 215, 25⟩) .tuple ⟨215, 27, 215, 32⟩ ⟨215, 11, 215, 21⟩ ⟨215, 11, 215, 33⟩) (.isi (.var 0 "found" ⟨215, 48, 215, 53⟩) .tuple ⟨215, 55, 215, 60⟩ ⟨215, 37, 215, 47⟩ ⟨215, 37, 215, 61⟩) ⟨215, 11, 215, 61⟩) (.cons (.cmp .NotEq (.isi (.var 1 "due" ⟨215, 76, 215, 79⟩) .list ⟨215, 81, 215, 85⟩ ⟨215, 65, 215, 75⟩ ⟨215, 65, 215, 86⟩) (.isi (.var 0 "found" ⟨215, 101, 215, 106⟩) .list ⟨215, 108, 215, 112⟩ ⟨215, 90, 215, 100⟩ ⟨215, 90, 215, 113⟩) ⟨215, 65, 215, 113⟩) .nil)) ⟨215, 11, 215, 113⟩) (.seq (.ret (.bl false 0 ⟨216, 19, 216, 24⟩) ⟨216, 12, 216, 24⟩) .skip) .skip ⟨215, 8, 216, 24⟩) (.seq (.ret (.and_ (.cons (.cmp .Eq (.bif .len false (.cons (.var 0 "found" ⟨217, 19, 217, 24⟩) .nil) ⟨217, 15, 217, 18⟩ ⟨217, 15, 217, 25⟩) (.bif .len false (.cons (.var 1 "due" ⟨217, 33, 217, 36⟩) .nil) ⟨217, 29, 217, 32⟩ ⟨217, 29, 217, 37⟩) ⟨217, 15, 217, 37⟩) (.cons (.bif .all false (.cons (.lc false (.cal 39 "_law_same" (.cons (.sub (.var 0 "found" ⟨217, 57, 217, 62⟩) (.var 2 "k" ⟨217, 63, 217, 64⟩) ⟨217, 57, 217, 65⟩) (.cons (.sub (.var 1 "due" ⟨217, 67, 217, 70⟩) (.var 2 "k" ⟨217, 71, 217, 72⟩) ⟨217, 67, 217, 73⟩) .nil)) .nil [] ⟨217, 47, 217, 56⟩ ⟨217, 47, 217, 74⟩) (.var 2 "k" ⟨217, 79, 217, 80⟩) (.rng (.cons (.bif .len false (.cons (.var 1 "due" ⟨217, 94, 217, 97⟩) .nil) ⟨217, 90, 217, 93⟩ ⟨217, 90, 217, 98⟩) .nil) ⟨217, 84, 217, 89⟩ ⟨217, 84, 217, 99⟩) .none [("k", 2)] ⟨.function, [(".0", .local), ("k", .local), ("_law_same", .globalImplicit), ("due", .free), ("found", .free)], false, false, []⟩ ⟨217, 46, 217, 100⟩) .nil) ⟨217, 42, 217, 45⟩ ⟨217, 42, 217, 101⟩) .nil)) ⟨217, 15, 217, 101⟩) ⟨217, 8, 217, 101⟩) .skip)) .skip ⟨214, 4, 217, 101⟩)
def f39_1 : S := (.ite (.cmp .Is (.var 1 "due" ⟨218, 7, 218, 10⟩) (.non 0 ⟨218, 14, 218, 18⟩) ⟨218, 7, 218, 18⟩) (.seq (.ret (.cmp .Is (.var 0 "found" ⟨219, 15, 219, 20⟩) (.non 0 ⟨219, 24, 219, 28⟩) ⟨219, 15, 219, 28⟩) ⟨219, 8, 219, 28⟩) .skip) .skip ⟨218, 4, 219, 28⟩)
def f39_2 : S := (.ite (.isi (.var 1 "due" ⟨220, 18, 220, 21⟩) .bool ⟨220, 23, 220, 27⟩ ⟨220, 7, 220, 17⟩ ⟨220, 7, 220, 28⟩) (.seq (.ret (.and_ (.cons (.isi (.var 0 "found" ⟨221, 26, 221, 31⟩) .bool ⟨221, 33, 221, 37⟩ ⟨221, 15, 221, 25⟩ ⟨221, 15, 221, 38⟩) (.cons (.cmp .Eq (.var 0 "found" ⟨221, 43, 221, 48⟩) (.var 1 "due" ⟨221, 52, 221, 55⟩) ⟨221, 43, 221, 55⟩) .nil)) ⟨221, 15, 221, 55⟩) ⟨221, 8, 221, 55⟩) .skip) .skip ⟨220, 4, 221, 55⟩)
def f39_3 : S := (.ite (.isi (.var 1 "due" ⟨222, 18, 222, 21⟩) .int ⟨222, 23, 222, 26⟩ ⟨222, 7, 222, 17⟩ ⟨222, 7, 222, 27⟩) (.seq (.ret (.and_ (.cons (.isi (.var 0 "found" ⟨223, 26, 223, 31⟩) .int ⟨223, 33, 223, 36⟩ ⟨223, 15, 223, 25⟩ ⟨223, 15, 223, 37⟩) (.cons (.nott (.isi (.var 0 "found" ⟨223, 58, 223, 63⟩) .bool ⟨223, 65, 223, 69⟩ ⟨223, 47, 223, 57⟩ ⟨223, 47, 223, 70⟩) ⟨223, 43, 223, 70⟩) (.cons (.cmp .Eq (.var 0 "found" ⟨223, 77, 223, 82⟩) (.var 1 "due" ⟨223, 86, 223, 89⟩) ⟨223, 77, 223, 89⟩) .nil))) ⟨223, 15, 223, 90⟩) ⟨223, 8, 223, 90⟩) .skip) .skip ⟨222, 4, 223, 90⟩)
def f39_4 : S := (.ret (.and_ (.cons (.isi (.var 0 "found" ⟨224, 22, 224, 27⟩) .str ⟨224, 29, 224, 32⟩ ⟨224, 11, 224, 21⟩ ⟨224, 11, 224, 33⟩) (.cons (.cmp .Eq (.var 0 "found" ⟨224, 38, 224, 43⟩) (.var 1 "due" ⟨224, 47, 224, 50⟩) ⟨224, 38, 224, 50⟩) .nil)) ⟨224, 11, 224, 50⟩) ⟨224, 4, 224, 50⟩)
def f39_b : S := .seq f39_0 (.seq f39_1 (.seq f39_2 (.seq f39_3 (.seq f39_4 .skip))))
/-- _law_same -/
def f39 : FEnt := ⟨none, "_law_same", "_law_same", ["found", "due"], ["found", "due", "k"], f39_b, false, "_law_same", ⟨[], [⟨"found", none, ⟨213, 14, 213, 19⟩⟩, ⟨"due", none, ⟨213, 21, 213, 24⟩⟩], none, [], [], none, []⟩, ⟨.function, [("found", .cell), ("due", .cell), ("isinstance", .globalImplicit), ("tuple", .globalImplicit), ("list", .globalImplicit), ("len", .globalImplicit), ("all", .globalImplicit), ("range", .globalImplicit), ("bool", .globalImplicit), ("int", .globalImplicit), ("str", .globalImplicit)], false, false, [("fast", .str "found"), ("fast", .str "due"), ("fast", .str "k")]⟩⟩
def f40_0 : S := (.asg (.var 2 "left" ⟨226, 4, 226, 8⟩) (.bif .list true (.cons (.var 1 "row" ⟨226, 16, 226, 19⟩) .nil) ⟨226, 11, 226, 15⟩ ⟨226, 11, 226, 20⟩) ⟨226, 4, 226, 20⟩)
def f40_1 : S := (.asg (.var 3 "found" ⟨227, 4, 227, 9⟩) (.lst true .nil ⟨227, 12, 227, 14⟩) ⟨227, 4, 227, 14⟩)
def f40_2 : S := (.for_ (.var 4 "turn" ⟨228, 8, 228, 12⟩) (.rng (.cons (.bif .len false (.cons (.var 1 "row" ⟨228, 26, 228, 29⟩) .nil) ⟨228, 22, 228, 25⟩ ⟨228, 22, 228, 30⟩) .nil) ⟨228, 16, 228, 21⟩ ⟨228, 16, 228, 31⟩) (.seq (.exp (.mth .append (.var 3 "found" ⟨229, 8, 229, 13⟩) (.cons (.mth .pop1 (.var 2 "left" ⟨229, 21, 229, 25⟩) (.cons (.cal 38 "_law_pick" (.cons (.var 0 "source" ⟨229, 40, 229, 46⟩) (.cons (.bif .len false (.cons (.var 2 "left" ⟨229, 52, 229, 56⟩) .nil) ⟨229, 48, 229, 51⟩ ⟨229, 48, 229, 57⟩) .nil)) .nil [] ⟨229, 30, 229, 39⟩ ⟨229, 30, 229, 58⟩) .nil) ⟨229, 21, 229, 29⟩ ⟨229, 21, 229, 59⟩) .nil) ⟨229, 8, 229, 20⟩ ⟨229, 8, 229, 60⟩) ⟨229, 8, 229, 60⟩) .skip) ⟨228, 4, 229, 60⟩)
def f40_3 : S := (.ret (.var 3 "found" ⟨230, 11, 230, 16⟩) ⟨230, 4, 230, 16⟩)
def f40_b : S := .seq f40_0 (.seq f40_1 (.seq f40_2 (.seq f40_3 .skip)))
/-- _law_shuffled -/
def f40 : FEnt := ⟨none, "_law_shuffled", "_law_shuffled", ["source", "row"], ["source", "row", "left", "found", "turn"], f40_b, true, "_law_shuffled", ⟨[], [⟨"source", none, ⟨225, 18, 225, 24⟩⟩, ⟨"row", none, ⟨225, 26, 225, 29⟩⟩], none, [], [], none, []⟩, ⟨.function, [("source", .local), ("row", .local), ("left", .local), ("found", .local), ("turn", .local), ("list", .globalImplicit), ("range", .globalImplicit), ("len", .globalImplicit), ("_law_pick", .globalImplicit)], false, false, []⟩⟩
def f41_0 : S := (.asg (.var 1 "found" ⟨232, 4, 232, 9⟩) (.lst false (.cons (.tup .nil 0 ⟨232, 13, 232, 15⟩) .nil) ⟨232, 12, 232, 16⟩) ⟨232, 4, 232, 16⟩)
def f41_1 : S := (.for_ (.var 2 "hand" ⟨233, 8, 233, 12⟩) (.rng (.cons (.var 0 "count" ⟨233, 22, 233, 27⟩) .nil) ⟨233, 16, 233, 21⟩ ⟨233, 16, 233, 28⟩) (.seq (.asg (.var 1 "found" ⟨234, 8, 234, 13⟩) (.bin .Add false (.var 1 "found" ⟨234, 16, 234, 21⟩) (.lc false (.bin .Add false (.var 3 "lot" ⟨234, 25, 234, 28⟩) (.tup (.cons (.var 2 "hand" ⟨234, 32, 234, 36⟩) .nil) 0 ⟨234, 31, 234, 38⟩) ⟨234, 25, 234, 38⟩) (.var 3 "lot" ⟨234, 43, 234, 46⟩) (.exp (.var 1 "found" ⟨234, 50, 234, 55⟩)) .none [("lot", 3)] ⟨.function, [(".0", .local), ("lot", .local), ("hand", .free)], false, false, []⟩ ⟨234, 24, 234, 56⟩) ⟨234, 16, 234, 56⟩) ⟨234, 8, 234, 56⟩) .skip) ⟨233, 4, 234, 56⟩)
def f41_2 : S := (.ret (.bif .sorted false (.cons (.var 1 "found" ⟨235, 18, 235, 23⟩) .nil) ⟨235, 11, 235, 17⟩ ⟨235, 11, 235, 24⟩) ⟨235, 4, 235, 24⟩)
def f41_b : S := .seq f41_0 (.seq f41_1 (.seq f41_2 .skip))
/-- _law_lots -/
def f41 : FEnt := ⟨none, "_law_lots", "_law_lots", ["count"], ["count", "found", "hand", "lot"], f41_b, false, "_law_lots", ⟨[], [⟨"count", none, ⟨231, 14, 231, 19⟩⟩], none, [], [], none, []⟩, ⟨.function, [("count", .local), ("found", .local), ("hand", .cell), ("range", .globalImplicit), ("sorted", .globalImplicit)], false, false, [("fast", .str "count"), ("fast", .str "found"), ("fast", .str "hand"), ("fast", .str "lot")]⟩⟩
def f42_0 : S := (.asg (.var 1 "found" ⟨237, 4, 237, 9⟩) (.lst false (.cons (.tup .nil 0 ⟨237, 13, 237, 15⟩) .nil) ⟨237, 12, 237, 16⟩) ⟨237, 4, 237, 16⟩)
def f42_1 : S := (.for_ (.var 2 "size" ⟨238, 8, 238, 12⟩) (.exp (.var 0 "sizes" ⟨238, 16, 238, 21⟩)) (.seq (.asg (.var 3 "longer" ⟨239, 8, 239, 14⟩) (.lst false .nil ⟨239, 17, 239, 19⟩) ⟨239, 8, 239, 19⟩) (.seq (.for_ (.var 4 "row" ⟨240, 12, 240, 15⟩) (.exp (.var 1 "found" ⟨240, 19, 240, 24⟩)) (.seq (.asg (.var 3 "longer" ⟨241, 12, 241, 18⟩) (.bin .Add false (.var 3 "longer" ⟨241, 21, 241, 27⟩) (.lc false (.bin .Add false (.var 4 "row" ⟨241, 31, 241, 34⟩) (.tup (.cons (.var 5 "one" ⟨241, 38, 241, 41⟩) .nil) 0 ⟨241, 37, 241, 43⟩) ⟨241, 31, 241, 43⟩) (.var 5 "one" ⟨241, 48, 241, 51⟩) (.rng (.cons (.var 2 "size" ⟨241, 61, 241, 65⟩) .nil) ⟨241, 55, 241, 60⟩ ⟨241, 55, 241, 66⟩) .none [("one", 5)] ⟨.function, [(".0", .local), ("one", .local), ("row", .free)], false, false, []⟩ ⟨241, 30, 241, 67⟩) ⟨241, 21, 241, 67⟩) ⟨241, 12, 241, 67⟩) .skip) ⟨240, 8, 241, 67⟩) (.seq (.asg (.var 1 "found" ⟨242, 8, 242, 13⟩) (.var 3 "longer" ⟨242, 16, 242, 22⟩) ⟨242, 8, 242, 22⟩) .skip))) ⟨238, 4, 242, 22⟩)
def f42_2 : S := (.ret (.var 1 "found" ⟨243, 11, 243, 16⟩) ⟨243, 4, 243, 16⟩)
def f42_b : S := .seq f42_0 (.seq f42_1 (.seq f42_2 .skip))
/-- _law_inputs -/
def f42 : FEnt := ⟨none, "_law_inputs", "_law_inputs", ["sizes"], ["sizes", "found", "size", "longer", "row", "one"], f42_b, false, "_law_inputs", ⟨[], [⟨"sizes", none, ⟨236, 16, 236, 21⟩⟩], none, [], [], none, []⟩, ⟨.function, [("sizes", .local), ("found", .local), ("size", .local), ("longer", .local), ("row", .cell), ("range", .globalImplicit)], false, false, [("fast", .str "sizes"), ("fast", .str "found"), ("fast", .str "size"), ("fast", .str "longer"), ("fast", .str "row"), ("fast", .str "one")]⟩⟩
def f43_0 : S := (.asg (.var 3 "outs" ⟨245, 4, 245, 8⟩) (.sub (.sub (.var 0 "joint" ⟨245, 11, 245, 16⟩) (.int 1 0 ⟨245, 17, 245, 18⟩) ⟨245, 11, 245, 19⟩) (.mth .index (.cal 42 "_law_inputs" (.cons (.sub (.var 0 "joint" ⟨245, 32, 245, 37⟩) (.int 0 0 ⟨245, 38, 245, 39⟩) ⟨245, 32, 245, 40⟩) .nil) .nil [] ⟨245, 20, 245, 31⟩ ⟨245, 20, 245, 41⟩) (.cons (.var 1 "inputs" ⟨245, 48, 245, 54⟩) .nil) ⟨245, 20, 245, 47⟩ ⟨245, 20, 245, 55⟩) ⟨245, 11, 245, 56⟩) ⟨245, 4, 245, 56⟩)
def f43_1 : S := (.ret (.tup (.cons (.bif .tuple false (.cons (.lc false (.sub (.var 1 "inputs" ⟨246, 19, 246, 25⟩) (.var 4 "hand" ⟨246, 26, 246, 30⟩) ⟨246, 19, 246, 31⟩) (.var 4 "hand" ⟨246, 36, 246, 40⟩) (.exp (.var 2 "lot" ⟨246, 44, 246, 47⟩)) .none [("hand", 4)] ⟨.function, [(".0", .local), ("hand", .local), ("inputs", .free)], false, false, []⟩ ⟨246, 18, 246, 48⟩) .nil) ⟨246, 12, 246, 17⟩ ⟨246, 12, 246, 49⟩) (.cons (.bif .tuple false (.cons (.lc false (.sub (.var 3 "outs" ⟨246, 58, 246, 62⟩) (.var 4 "hand" ⟨246, 63, 246, 67⟩) ⟨246, 58, 246, 68⟩) (.var 4 "hand" ⟨246, 73, 246, 77⟩) (.exp (.var 2 "lot" ⟨246, 81, 246, 84⟩)) .none [("hand", 4)] ⟨.function, [(".0", .local), ("hand", .local), ("outs", .free)], false, false, []⟩ ⟨246, 57, 246, 85⟩) .nil) ⟨246, 51, 246, 56⟩ ⟨246, 51, 246, 86⟩) .nil)) 0 ⟨246, 11, 246, 87⟩) ⟨246, 4, 246, 87⟩)
def f43_b : S := .seq f43_0 (.seq f43_1 .skip)
/-- _law_ideal_answer -/
def f43 : FEnt := ⟨none, "_law_ideal_answer", "_law_ideal_answer", ["joint", "inputs", "lot"], ["joint", "inputs", "lot", "outs", "hand"], f43_b, false, "_law_ideal_answer", ⟨[], [⟨"joint", none, ⟨244, 22, 244, 27⟩⟩, ⟨"inputs", none, ⟨244, 29, 244, 35⟩⟩, ⟨"lot", none, ⟨244, 37, 244, 40⟩⟩], none, [], [], none, []⟩, ⟨.function, [("joint", .local), ("inputs", .cell), ("lot", .local), ("outs", .cell), ("_law_inputs", .globalImplicit), ("tuple", .globalImplicit)], false, false, [("fast", .str "joint"), ("fast", .str "inputs"), ("fast", .str "lot"), ("fast", .str "outs"), ("fast", .str "hand")]⟩⟩
def f44_0 : S := (.asg (.var 2 "hands" ⟨248, 4, 248, 9⟩) (.bif .len false (.cons (.var 1 "sizes" ⟨248, 16, 248, 21⟩) .nil) ⟨248, 12, 248, 15⟩ ⟨248, 12, 248, 22⟩) ⟨248, 4, 248, 22⟩)
def f44_1 : S := (.asg (.var 3 "deaf" ⟨249, 4, 249, 8⟩) (.lc false (.cmp .Eq (.cal 38 "_law_pick" (.cons (.var 0 "source" ⟨249, 22, 249, 28⟩) (.cons (.int 3 0 ⟨249, 30, 249, 31⟩) .nil)) .nil [] ⟨249, 12, 249, 21⟩ ⟨249, 12, 249, 32⟩) (.int 0 0 ⟨249, 36, 249, 37⟩) ⟨249, 12, 249, 37⟩) (.var 7 "hand" ⟨249, 42, 249, 46⟩) (.rng (.cons (.var 2 "hands" ⟨249, 56, 249, 61⟩) .nil) ⟨249, 50, 249, 55⟩ ⟨249, 50, 249, 62⟩) .none [("hand", 7)] ⟨.function, [(".0", .local), ("hand", .local), ("_law_pick", .globalImplicit), ("source", .free)], false, false, []⟩ ⟨249, 11, 249, 63⟩) ⟨249, 4, 249, 63⟩)
def f44_2 : S := (.asg (.var 4 "rows" ⟨250, 4, 250, 8⟩) (.lst true .nil ⟨250, 11, 250, 13⟩) ⟨250, 4, 250, 13⟩)
def f44_3 : S := (.for_ (.var 5 "inputs" ⟨251, 8, 251, 14⟩) (.exp (.cal 42 "_law_inputs" (.cons (.var 1 "sizes" ⟨251, 30, 251, 35⟩) .nil) .nil [] ⟨251, 18, 251, 29⟩ ⟨251, 18, 251, 36⟩)) (.seq (.asg (.var 6 "value" ⟨252, 8, 252, 13⟩) (.cal 38 "_law_pick" (.cons (.var 0 "source" ⟨252, 26, 252, 32⟩) (.cons (.int 2 0 ⟨252, 34, 252, 35⟩) .nil)) .nil [] ⟨252, 16, 252, 25⟩ ⟨252, 16, 252, 36⟩) ⟨252, 8, 252, 36⟩) (.seq (.exp (.mth .append (.var 4 "rows" ⟨253, 8, 253, 12⟩) (.cons (.bif .tuple false (.cons (.lc false (.ite (.sub (.var 3 "deaf" ⟨253, 35, 253, 39⟩) (.var 7 "hand" ⟨253, 40, 253, 44⟩) ⟨253, 35, 253, 45⟩) (.non 0 ⟨253, 27, 253, 31⟩) (.ite (.cmp .Gt (.cal 38 "_law_pick" (.cons (.var 0 "source" ⟨253, 70, 253, 76⟩) (.cons (.int 4 0 ⟨253, 78, 253, 79⟩) .nil)) .nil [] ⟨253, 60, 253, 69⟩ ⟨253, 60, 253, 80⟩) (.int 0 0 ⟨253, 83, 253, 84⟩) ⟨253, 60, 253, 84⟩) (.var 6 "value" ⟨253, 51, 253, 56⟩) (.cal 38 "_law_pick" (.cons (.var 0 "source" ⟨253, 100, 253, 106⟩) (.cons (.int 3 0 ⟨253, 108, 253, 109⟩) .nil)) .nil [] ⟨253, 90, 253, 99⟩ ⟨253, 90, 253, 110⟩) ⟨253, 51, 253, 110⟩) ⟨253, 27, 253, 110⟩) (.var 7 "hand" ⟨253, 115, 253, 119⟩) (.rng (.cons (.var 2 "hands" ⟨253, 129, 253, 134⟩) .nil) ⟨253, 123, 253, 128⟩ ⟨253, 123, 253, 135⟩) .none [("hand", 7)] ⟨.function, [(".0", .local), ("hand", .local), ("_law_pick", .globalImplicit), ("deaf", .free), ("source", .free), ("value", .free)], false, false, []⟩ ⟨253, 26, 253, 136⟩) .nil) ⟨253, 20, 253, 25⟩ ⟨253, 20, 253, 137⟩) .nil) ⟨253, 8, 253, 19⟩ ⟨253, 8, 253, 138⟩) ⟨253, 8, 253, 138⟩) .skip)) ⟨251, 4, 253, 138⟩)
def f44_4 : S := (.ret (.tup (.cons (.var 1 "sizes" ⟨254, 12, 254, 17⟩) (.cons (.bif .tuple false (.cons (.var 4 "rows" ⟨254, 25, 254, 29⟩) .nil) ⟨254, 19, 254, 24⟩ ⟨254, 19, 254, 30⟩) .nil)) 0 ⟨254, 11, 254, 31⟩) ⟨254, 4, 254, 31⟩)
def f44_b : S := .seq f44_0 (.seq f44_1 (.seq f44_2 (.seq f44_3 (.seq f44_4 .skip))))
/-- _law_joint -/
def f44 : FEnt := ⟨none, "_law_joint", "_law_joint", ["source", "sizes"], ["source", "sizes", "hands", "deaf", "rows", "inputs", "value", "hand"], f44_b, false, "_law_joint", ⟨[], [⟨"source", none, ⟨247, 15, 247, 21⟩⟩, ⟨"sizes", none, ⟨247, 23, 247, 28⟩⟩], none, [], [], none, []⟩, ⟨.function, [("source", .cell), ("sizes", .local), ("hands", .local), ("deaf", .cell), ("rows", .local), ("inputs", .local), ("value", .cell), ("len", .globalImplicit), ("range", .globalImplicit), ("_law_inputs", .globalImplicit), ("_law_pick", .globalImplicit), ("tuple", .globalImplicit)], false, false, [("fast", .str "source"), ("fast", .str "sizes"), ("fast", .str "hands"), ("fast", .str "hand"), ("fast", .str "deaf"), ("fast", .str "rows"), ("fast", .str "inputs"), ("fast", .str "value")]⟩⟩
def f45_0 : S := (.asg (.var 3 "groups" ⟨256, 4, 256, 10⟩) (.dic ⟨256, 13, 256, 15⟩) ⟨256, 4, 256, 15⟩)
def f45_1 : S := (.asg (.var 4 "whole" ⟨257, 4, 257, 9⟩) (.cal 42 "_law_inputs" (.cons (.var 0 "sizes" ⟨257, 24, 257, 29⟩) .nil) .nil [] ⟨257, 12, 257, 23⟩ ⟨257, 12, 257, 30⟩) ⟨257, 4, 257, 30⟩)
def f45_2 : S := (.for_ (.var 5 "k" ⟨258, 8, 258, 9⟩) (.rng (.cons (.bif .len false (.cons (.var 4 "whole" ⟨258, 23, 258, 28⟩) .nil) ⟨258, 19, 258, 22⟩ ⟨258, 19, 258, 29⟩) .nil) ⟨258, 13, 258, 18⟩ ⟨258, 13, 258, 30⟩) (.seq (.asg (.var 6 "key" ⟨259, 8, 259, 11⟩) (.bif .tuple false (.cons (.lc false (.cal 43 "_law_ideal_answer" (.cons (.var 7 "joint" ⟨259, 39, 259, 44⟩) (.cons (.sub (.var 4 "whole" ⟨259, 46, 259, 51⟩) (.var 5 "k" ⟨259, 52, 259, 53⟩) ⟨259, 46, 259, 54⟩) (.cons (.var 2 "lot" ⟨259, 56, 259, 59⟩) .nil))) .nil [] ⟨259, 21, 259, 38⟩ ⟨259, 21, 259, 60⟩) (.var 7 "joint" ⟨259, 65, 259, 70⟩) (.exp (.var 1 "joints" ⟨259, 74, 259, 80⟩)) .none [("joint", 7)] ⟨.function, [(".0", .local), ("joint", .local), ("_law_ideal_answer", .globalImplicit), ("k", .free), ("lot", .free), ("whole", .free)], false, false, []⟩ ⟨259, 20, 259, 81⟩) .nil) ⟨259, 14, 259, 19⟩ ⟨259, 14, 259, 82⟩) ⟨259, 8, 259, 82⟩) (.seq (.asg (.sub (.var 3 "groups" ⟨260, 8, 260, 14⟩) (.var 6 "key" ⟨260, 15, 260, 18⟩) ⟨260, 8, 260, 19⟩) (.bin .Add false (.mth .get2 (.var 3 "groups" ⟨260, 22, 260, 28⟩) (.cons (.var 6 "key" ⟨260, 33, 260, 36⟩) (.cons (.tup .nil 0 ⟨260, 38, 260, 40⟩) .nil)) ⟨260, 22, 260, 32⟩ ⟨260, 22, 260, 41⟩) (.tup (.cons (.var 5 "k" ⟨260, 45, 260, 46⟩) .nil) 0 ⟨260, 44, 260, 48⟩) ⟨260, 22, 260, 48⟩) ⟨260, 8, 260, 48⟩) .skip)) ⟨258, 4, 260, 48⟩)
def f45_3 : S := (.ret (.bif .tuple false (.cons (.bif .sorted false (.cons (.lc false (.sub (.var 3 "groups" ⟨261, 25, 261, 31⟩) (.var 6 "key" ⟨261, 32, 261, 35⟩) ⟨261, 25, 261, 36⟩) (.var 6 "key" ⟨261, 41, 261, 44⟩) (.exp (.var 3 "groups" ⟨261, 48, 261, 54⟩)) .none [("key", 6)] ⟨.function, [(".0", .local), ("key", .local), ("groups", .free)], false, false, []⟩ ⟨261, 24, 261, 55⟩) .nil) ⟨261, 17, 261, 23⟩ ⟨261, 17, 261, 56⟩) .nil) ⟨261, 11, 261, 16⟩ ⟨261, 11, 261, 57⟩) ⟨261, 4, 261, 57⟩)
def f45_b : S := .seq f45_0 (.seq f45_1 (.seq f45_2 (.seq f45_3 .skip)))
/-- _law_classes -/
def f45 : FEnt := ⟨none, "_law_classes", "_law_classes", ["sizes", "joints", "lot"], ["sizes", "joints", "lot", "groups", "whole", "k", "key", "joint"], f45_b, false, "_law_classes", ⟨[], [⟨"sizes", none, ⟨255, 17, 255, 22⟩⟩, ⟨"joints", none, ⟨255, 24, 255, 30⟩⟩, ⟨"lot", none, ⟨255, 32, 255, 35⟩⟩], none, [], [], none, []⟩, ⟨.function, [("sizes", .local), ("joints", .local), ("lot", .cell), ("groups", .cell), ("whole", .cell), ("k", .cell), ("key", .local), ("_law_inputs", .globalImplicit), ("range", .globalImplicit), ("len", .globalImplicit), ("tuple", .globalImplicit), ("sorted", .globalImplicit)], false, false, [("fast", .str "sizes"), ("fast", .str "joints"), ("fast", .str "lot"), ("fast", .str "groups"), ("fast", .str "whole"), ("fast", .str "k"), ("fast", .str "joint"), ("fast", .str "key")]⟩⟩
def f46_0 : S := (.ret (.bif .tuple false (.cons (.lc false (.var 3 "lot" ⟨263, 18, 263, 21⟩) (.tup (.cons (.var 3 "lot" ⟨263, 26, 263, 29⟩) (.cons (.var 4 "most" ⟨263, 31, 263, 35⟩) .nil)) 0 ⟨263, 26, 263, 35⟩) (.exp (.var 1 "limits" ⟨263, 39, 263, 45⟩)) (.some (.cmp .Gt (.bif .len false (.cons (.cal 45 "_law_classes" (.cons (.var 0 "sizes" ⟨263, 66, 263, 71⟩) (.cons (.var 2 "joints" ⟨263, 73, 263, 79⟩) (.cons (.var 3 "lot" ⟨263, 81, 263, 84⟩) .nil))) .nil [] ⟨263, 53, 263, 65⟩ ⟨263, 53, 263, 85⟩) .nil) ⟨263, 49, 263, 52⟩ ⟨263, 49, 263, 86⟩) (.var 4 "most" ⟨263, 89, 263, 93⟩) ⟨263, 49, 263, 93⟩)) [("lot", 3), ("most", 4)] ⟨.function, [(".0", .local), ("lot", .local), ("most", .local), ("len", .globalImplicit), ("_law_classes", .globalImplicit), ("joints", .free), ("sizes", .free)], false, false, []⟩ ⟨263, 17, 263, 94⟩) .nil) ⟨263, 11, 263, 16⟩ ⟨263, 11, 263, 95⟩) ⟨263, 4, 263, 95⟩)
def f46_b : S := .seq f46_0 .skip
/-- _law_over -/
def f46 : FEnt := ⟨none, "_law_over", "_law_over", ["sizes", "limits", "joints"], ["sizes", "limits", "joints", "lot", "most"], f46_b, false, "_law_over", ⟨[], [⟨"sizes", none, ⟨262, 14, 262, 19⟩⟩, ⟨"limits", none, ⟨262, 21, 262, 27⟩⟩, ⟨"joints", none, ⟨262, 29, 262, 35⟩⟩], none, [], [], none, []⟩, ⟨.function, [("sizes", .cell), ("limits", .local), ("joints", .cell), ("tuple", .globalImplicit)], false, false, [("fast", .str "sizes"), ("fast", .str "limits"), ("fast", .str "joints"), ("fast", .str "lot"), ("fast", .str "most")]⟩⟩
def f47_0 : S := (.asg (.tup (.cons (.var 2 "found" ⟨265, 4, 265, 9⟩) (.cons (.var 3 "fault" ⟨265, 11, 265, 16⟩) .nil)) 0 ⟨265, 4, 265, 16⟩) (.tup (.cons (.non 0 ⟨265, 20, 265, 24⟩) (.cons (.non 0 ⟨265, 26, 265, 30⟩) .nil)) 0 ⟨265, 19, 265, 31⟩) ⟨265, 4, 265, 31⟩)
def f47_1 : S := (.try_ (.seq (.ite (.cmp .Eq (.sub (.var 1 "step" ⟨267, 11, 267, 15⟩) (.int 0 0 ⟨267, 16, 267, 17⟩) ⟨267, 11, 267, 18⟩) (.str "tell" 0 ⟨267, 22, 267, 28⟩) ⟨267, 11, 267, 28⟩) (.seq (.asg (.var 2 "found" ⟨268, 12, 268, 17⟩) (.mcl 28 "LeakLedger" "tell" (.var 0 "ledger" ⟨268, 20, 268, 26⟩) .nil (.cons "name" (.sub (.var 1 "step" ⟨268, 37, 268, 41⟩) (.int 1 0 ⟨268, 42, 268, 43⟩) ⟨268, 37, 268, 44⟩) ⟨268, 32, 268, 44⟩ (.cons "joint" (.sub (.var 1 "step" ⟨268, 52, 268, 56⟩) (.int 2 0 ⟨268, 57, 268, 58⟩) ⟨268, 52, 268, 59⟩) ⟨268, 46, 268, 59⟩ .nil)) [0, 1] ⟨268, 20, 268, 31⟩ ⟨268, 20, 268, 60⟩) ⟨268, 12, 268, 60⟩) .skip) (.seq (.ite (.cmp .Eq (.sub (.var 1 "step" ⟨269, 13, 269, 17⟩) (.int 0 0 ⟨269, 18, 269, 19⟩) ⟨269, 13, 269, 20⟩) (.str "drop" 0 ⟨269, 24, 269, 30⟩) ⟨269, 13, 269, 30⟩) (.seq (.asg (.var 2 "found" ⟨270, 12, 270, 17⟩) (.mcl 29 "LeakLedger" "drop" (.var 0 "ledger" ⟨270, 20, 270, 26⟩) .nil (.cons "name" (.sub (.var 1 "step" ⟨270, 37, 270, 41⟩) (.int 1 0 ⟨270, 42, 270, 43⟩) ⟨270, 37, 270, 44⟩) ⟨270, 32, 270, 44⟩ .nil) [0] ⟨270, 20, 270, 31⟩ ⟨270, 20, 270, 45⟩) ⟨270, 12, 270, 45⟩) .skip) (.seq (.asg (.var 2 "found" ⟨272, 12, 272, 17⟩) (.mcl 30 "LeakLedger" "undo" (.var 0 "ledger" ⟨272, 20, 272, 26⟩) .nil .nil [] ⟨272, 20, 272, 31⟩ ⟨272, 20, 272, 33⟩) ⟨272, 12, 272, 33⟩) .skip) ⟨269, 8, 272, 33⟩) .skip) ⟨267, 8, 272, 33⟩) .skip) (.hd "InvalidName" ⟨273, 11, 273, 22⟩ none (.seq (.asg (.var 3 "fault" ⟨274, 8, 274, 13⟩) (.tup (.cons (.str "name" 0 ⟨274, 17, 274, 23⟩) .nil) 0 ⟨274, 16, 274, 25⟩) ⟨274, 8, 274, 25⟩) .skip) ⟨273, 4, 274, 25⟩ (.hd "InvalidJoint" ⟨275, 11, 275, 23⟩ none (.seq (.asg (.var 3 "fault" ⟨276, 8, 276, 13⟩) (.tup (.cons (.str "joint" 0 ⟨276, 17, 276, 24⟩) .nil) 0 ⟨276, 16, 276, 26⟩) ⟨276, 8, 276, 26⟩) .skip) ⟨275, 4, 276, 26⟩ (.hd "Taken" ⟨277, 11, 277, 16⟩ (some (4, "error")) (.seq (.asg (.var 3 "fault" ⟨278, 8, 278, 13⟩) (.tup (.cons (.str "taken" 0 ⟨278, 17, 278, 24⟩) (.cons (.exf 4 "error" "name" ⟨278, 26, 278, 31⟩ ⟨278, 26, 278, 36⟩) .nil)) 0 ⟨278, 16, 278, 37⟩) ⟨278, 8, 278, 37⟩) .skip) ⟨277, 4, 278, 37⟩ (.hd "Unknown" ⟨279, 11, 279, 18⟩ (some (4, "error")) (.seq (.asg (.var 3 "fault" ⟨280, 8, 280, 13⟩) (.tup (.cons (.str "unknown" 0 ⟨280, 17, 280, 26⟩) (.cons (.exf 4 "error" "name" ⟨280, 28, 280, 33⟩ ⟨280, 28, 280, 38⟩) .nil)) 0 ⟨280, 16, 280, 39⟩) ⟨280, 8, 280, 39⟩) .skip) ⟨279, 4, 280, 39⟩ (.hd "TooMuch" ⟨281, 11, 281, 18⟩ (some (4, "error")) (.seq (.asg (.var 3 "fault" ⟨282, 8, 282, 13⟩) (.tup (.cons (.str "much" 0 ⟨282, 17, 282, 23⟩) (.cons (.exf 4 "error" "lot" ⟨282, 25, 282, 30⟩ ⟨282, 25, 282, 34⟩) .nil)) 0 ⟨282, 16, 282, 35⟩) ⟨282, 8, 282, 35⟩) .skip) ⟨281, 4, 282, 35⟩ (.hd "NothingToUndo" ⟨283, 11, 283, 24⟩ none (.seq (.asg (.var 3 "fault" ⟨284, 8, 284, 13⟩) (.tup (.cons (.str "nothing" 0 ⟨284, 17, 284, 26⟩) .nil) 0 ⟨284, 16, 284, 28⟩) ⟨284, 8, 284, 28⟩) .skip) ⟨283, 4, 284, 28⟩ .skip)))))) ⟨266, 4, 284, 28⟩)
def f47_2 : S := (.ret (.ite (.cmp .Is (.var 3 "fault" ⟨285, 22, 285, 27⟩) (.non 0 ⟨285, 31, 285, 35⟩) ⟨285, 22, 285, 35⟩) (.lst false (.cons (.var 2 "found" ⟨285, 12, 285, 17⟩) .nil) ⟨285, 11, 285, 18⟩) (.var 3 "fault" ⟨285, 41, 285, 46⟩) ⟨285, 11, 285, 46⟩) ⟨285, 4, 285, 46⟩)
def f47_b : S := .seq f47_0 (.seq f47_1 (.seq f47_2 .skip))
/-- _law_done -/
def f47 : FEnt := ⟨none, "_law_done", "_law_done", ["ledger", "step"], ["ledger", "step", "found", "fault", "error"], f47_b, false, "_law_done", ⟨[], [⟨"ledger", none, ⟨264, 14, 264, 20⟩⟩, ⟨"step", none, ⟨264, 22, 264, 26⟩⟩], none, [], [], none, []⟩, ⟨.function, [("ledger", .local), ("step", .local), ("found", .local), ("fault", .local), ("error", .local), ("InvalidName", .globalImplicit), ("InvalidJoint", .globalImplicit), ("Taken", .globalImplicit), ("Unknown", .globalImplicit), ("TooMuch", .globalImplicit), ("NothingToUndo", .globalImplicit)], false, false, []⟩⟩
def f48_0 : S := (.asg (.tup (.cons (.var 4 "names" ⟨287, 4, 287, 9⟩) (.cons (.var 5 "joints" ⟨287, 11, 287, 17⟩) (.cons (.var 6 "past" ⟨287, 19, 287, 23⟩) .nil))) 0 ⟨287, 4, 287, 23⟩) (.var 2 "state" ⟨287, 26, 287, 31⟩) ⟨287, 4, 287, 31⟩)
def f48_1 : S := (.ite (.cmp .Eq (.sub (.var 3 "step" ⟨288, 7, 288, 11⟩) (.int 0 0 ⟨288, 12, 288, 13⟩) ⟨288, 7, 288, 14⟩) (.str "undo" 0 ⟨288, 18, 288, 24⟩) ⟨288, 7, 288, 24⟩) (.seq (.ite (.cmp .Eq (.var 6 "past" ⟨289, 11, 289, 15⟩) (.lst false .nil ⟨289, 19, 289, 21⟩) ⟨289, 11, 289, 21⟩) (.seq (.ret (.tup (.cons (.str "nothing" 0 ⟨290, 20, 290, 29⟩) .nil) 0 ⟨290, 19, 290, 31⟩) ⟨290, 12, 290, 31⟩) .skip) .skip ⟨289, 8, 290, 31⟩) (.seq (.asg (.tup (.cons (.var 7 "word" ⟨291, 8, 291, 12⟩) (.cons (.sub (.var 2 "state" ⟨291, 14, 291, 19⟩) (.int 0 0 ⟨291, 20, 291, 21⟩) ⟨291, 14, 291, 22⟩) (.cons (.sub (.var 2 "state" ⟨291, 24, 291, 29⟩) (.int 1 0 ⟨291, 30, 291, 31⟩) ⟨291, 24, 291, 32⟩) .nil))) 0 ⟨291, 8, 291, 32⟩) (.sub (.var 6 "past" ⟨291, 35, 291, 39⟩) (.neg (.int 1 0 ⟨291, 41, 291, 42⟩) ⟨291, 40, 291, 42⟩) ⟨291, 35, 291, 43⟩) ⟨291, 8, 291, 43⟩) (.seq (.asg (.sub (.var 2 "state" ⟨292, 8, 292, 13⟩) (.int 2 0 ⟨292, 14, 292, 15⟩) ⟨292, 8, 292, 16⟩) (.slc false (.var 6 "past" ⟨292, 19, 292, 23⟩) .none (.some (.neg (.int 1 0 ⟨292, 26, 292, 27⟩) ⟨292, 25, 292, 27⟩)) ⟨292, 24, 292, 27⟩ ⟨292, 19, 292, 28⟩) ⟨292, 8, 292, 28⟩) (.seq (.ret (.lst false (.cons (.var 7 "word" ⟨293, 16, 293, 20⟩) .nil) ⟨293, 15, 293, 21⟩) ⟨293, 8, 293, 21⟩) .skip)))) .skip ⟨288, 4, 293, 21⟩)
def f48_2 : S := (.ite (.cmp .Eq (.sub (.var 3 "step" ⟨294, 7, 294, 11⟩) (.int 0 0 ⟨294, 12, 294, 13⟩) ⟨294, 7, 294, 14⟩) (.str "drop" 0 ⟨294, 18, 294, 24⟩) ⟨294, 7, 294, 24⟩) (.seq (.ite (.cmp .NotIn (.sub (.var 3 "step" ⟨295, 11, 295, 15⟩) (.int 1 0 ⟨295, 16, 295, 17⟩) ⟨295, 11, 295, 18⟩) (.var 4 "names" ⟨295, 26, 295, 31⟩) ⟨295, 11, 295, 31⟩) (.seq (.ret (.tup (.cons (.str "unknown" 0 ⟨296, 20, 296, 29⟩) (.cons (.sub (.var 3 "step" ⟨296, 31, 296, 35⟩) (.int 1 0 ⟨296, 36, 296, 37⟩) ⟨296, 31, 296, 38⟩) .nil)) 0 ⟨296, 19, 296, 39⟩) ⟨296, 12, 296, 39⟩) .skip) .skip ⟨295, 8, 296, 39⟩) (.seq (.asg (.var 8 "at" ⟨297, 8, 297, 10⟩) (.mth .index (.var 4 "names" ⟨297, 13, 297, 18⟩) (.cons (.sub (.var 3 "step" ⟨297, 25, 297, 29⟩) (.int 1 0 ⟨297, 30, 297, 31⟩) ⟨297, 25, 297, 32⟩) .nil) ⟨297, 13, 297, 24⟩ ⟨297, 13, 297, 33⟩) ⟨297, 8, 297, 33⟩) (.seq (.asg (.tup (.cons (.sub (.var 2 "state" ⟨298, 8, 298, 13⟩) (.int 0 0 ⟨298, 14, 298, 15⟩) ⟨298, 8, 298, 16⟩) (.cons (.sub (.var 2 "state" ⟨298, 18, 298, 23⟩) (.int 1 0 ⟨298, 24, 298, 25⟩) ⟨298, 18, 298, 26⟩) .nil)) 0 ⟨298, 8, 298, 26⟩) (.tup (.cons (.bin .Add false (.slc false (.var 4 "names" ⟨298, 30, 298, 35⟩) .none (.some (.var 8 "at" ⟨298, 37, 298, 39⟩)) ⟨298, 36, 298, 39⟩ ⟨298, 30, 298, 40⟩) (.slc false (.var 4 "names" ⟨298, 43, 298, 48⟩) (.some (.bin .Add false (.var 8 "at" ⟨298, 49, 298, 51⟩) (.int 1 0 ⟨298, 54, 298, 55⟩) ⟨298, 49, 298, 55⟩)) .none ⟨298, 49, 298, 56⟩ ⟨298, 43, 298, 57⟩) ⟨298, 30, 298, 57⟩) (.cons (.bin .Add false (.slc false (.var 5 "joints" ⟨298, 59, 298, 65⟩) .none (.some (.var 8 "at" ⟨298, 67, 298, 69⟩)) ⟨298, 66, 298, 69⟩ ⟨298, 59, 298, 70⟩) (.slc false (.var 5 "joints" ⟨298, 73, 298, 79⟩) (.some (.bin .Add false (.var 8 "at" ⟨298, 80, 298, 82⟩) (.int 1 0 ⟨298, 85, 298, 86⟩) ⟨298, 80, 298, 86⟩)) .none ⟨298, 80, 298, 87⟩ ⟨298, 73, 298, 88⟩) ⟨298, 59, 298, 88⟩) .nil)) 0 ⟨298, 29, 298, 89⟩) ⟨298, 8, 298, 89⟩) (.seq (.asg (.sub (.var 2 "state" ⟨299, 8, 299, 13⟩) (.int 2 0 ⟨299, 14, 299, 15⟩) ⟨299, 8, 299, 16⟩) (.bin .Add false (.var 6 "past" ⟨299, 19, 299, 23⟩) (.lst false (.cons (.tup (.cons (.str "drop" 0 ⟨299, 28, 299, 34⟩) (.cons (.var 4 "names" ⟨299, 36, 299, 41⟩) (.cons (.var 5 "joints" ⟨299, 43, 299, 49⟩) .nil))) 0 ⟨299, 27, 299, 50⟩) .nil) ⟨299, 26, 299, 51⟩) ⟨299, 19, 299, 51⟩) ⟨299, 8, 299, 51⟩) (.seq (.ret (.lst false (.cons (.non 0 ⟨300, 16, 300, 20⟩) .nil) ⟨300, 15, 300, 21⟩) ⟨300, 8, 300, 21⟩) .skip))))) .skip ⟨294, 4, 300, 21⟩)
def f48_3 : S := (.ite (.cmp .In (.sub (.var 3 "step" ⟨301, 7, 301, 11⟩) (.int 1 0 ⟨301, 12, 301, 13⟩) ⟨301, 7, 301, 14⟩) (.var 4 "names" ⟨301, 18, 301, 23⟩) ⟨301, 7, 301, 23⟩) (.seq (.ret (.tup (.cons (.str "taken" 0 ⟨302, 16, 302, 23⟩) (.cons (.sub (.var 3 "step" ⟨302, 25, 302, 29⟩) (.int 1 0 ⟨302, 30, 302, 31⟩) ⟨302, 25, 302, 32⟩) .nil)) 0 ⟨302, 15, 302, 33⟩) ⟨302, 8, 302, 33⟩) .skip) .skip ⟨301, 4, 302, 33⟩)
def f48_4 : S := (.asg (.var 9 "over" ⟨303, 4, 303, 8⟩) (.cal 46 "_law_over" (.cons (.var 0 "sizes" ⟨303, 21, 303, 26⟩) (.cons (.var 1 "limits" ⟨303, 28, 303, 34⟩) (.cons (.bin .Add false (.var 5 "joints" ⟨303, 36, 303, 42⟩) (.lst false (.cons (.sub (.var 3 "step" ⟨303, 46, 303, 50⟩) (.int 2 0 ⟨303, 51, 303, 52⟩) ⟨303, 46, 303, 53⟩) .nil) ⟨303, 45, 303, 54⟩) ⟨303, 36, 303, 54⟩) .nil))) .nil [] ⟨303, 11, 303, 20⟩ ⟨303, 11, 303, 55⟩) ⟨303, 4, 303, 55⟩)
def f48_5 : S := (.ite (.cmp .NotEq (.var 9 "over" ⟨304, 7, 304, 11⟩) (.tup .nil 0 ⟨304, 15, 304, 17⟩) ⟨304, 7, 304, 17⟩) (.seq (.ret (.tup (.cons (.str "much" 0 ⟨305, 16, 305, 22⟩) (.cons (.sub (.var 9 "over" ⟨305, 24, 305, 28⟩) (.int 0 0 ⟨305, 29, 305, 30⟩) ⟨305, 24, 305, 31⟩) .nil)) 0 ⟨305, 15, 305, 32⟩) ⟨305, 8, 305, 32⟩) .skip) .skip ⟨304, 4, 305, 32⟩)
def f48_6 : S := (.asg (.tup (.cons (.sub (.var 2 "state" ⟨306, 4, 306, 9⟩) (.int 0 0 ⟨306, 10, 306, 11⟩) ⟨306, 4, 306, 12⟩) (.cons (.sub (.var 2 "state" ⟨306, 14, 306, 19⟩) (.int 1 0 ⟨306, 20, 306, 21⟩) ⟨306, 14, 306, 22⟩) (.cons (.sub (.var 2 "state" ⟨306, 24, 306, 29⟩) (.int 2 0 ⟨306, 30, 306, 31⟩) ⟨306, 24, 306, 32⟩) .nil))) 0 ⟨306, 4, 306, 32⟩) (.tup (.cons (.bin .Add false (.var 4 "names" ⟨306, 36, 306, 41⟩) (.lst false (.cons (.sub (.var 3 "step" ⟨306, 45, 306, 49⟩) (.int 1 0 ⟨306, 50, 306, 51⟩) ⟨306, 45, 306, 52⟩) .nil) ⟨306, 44, 306, 53⟩) ⟨306, 36, 306, 53⟩) (.cons (.bin .Add false (.var 5 "joints" ⟨306, 55, 306, 61⟩) (.lst false (.cons (.sub (.var 3 "step" ⟨306, 65, 306, 69⟩) (.int 2 0 ⟨306, 70, 306, 71⟩) ⟨306, 65, 306, 72⟩) .nil) ⟨306, 64, 306, 73⟩) ⟨306, 55, 306, 73⟩) (.cons (.bin .Add false (.var 6 "past" ⟨306, 75, 306, 79⟩) (.lst false (.cons (.tup (.cons (.str "tell" 0 ⟨306, 84, 306, 90⟩) (.cons (.var 4 "names" ⟨306, 92, 306, 97⟩) (.cons (.var 5 "joints" ⟨306, 99, 306, 105⟩) .nil))) 0 ⟨306, 83, 306, 106⟩) .nil) ⟨306, 82, 306, 107⟩) ⟨306, 75, 306, 107⟩) .nil))) 0 ⟨306, 35, 306, 108⟩) ⟨306, 4, 306, 108⟩)
def f48_7 : S := (.ret (.lst false (.cons (.non 0 ⟨307, 12, 307, 16⟩) .nil) ⟨307, 11, 307, 17⟩) ⟨307, 4, 307, 17⟩)
def f48_b : S := .seq f48_0 (.seq f48_1 (.seq f48_2 (.seq f48_3 (.seq f48_4 (.seq f48_5 (.seq f48_6 (.seq f48_7 .skip)))))))
/-- _law_due -/
def f48 : FEnt := ⟨none, "_law_due", "_law_due", ["sizes", "limits", "state", "step"], ["sizes", "limits", "state", "step", "names", "joints", "past", "word", "at", "over"], f48_b, false, "_law_due", ⟨[], [⟨"sizes", none, ⟨286, 13, 286, 18⟩⟩, ⟨"limits", none, ⟨286, 20, 286, 26⟩⟩, ⟨"state", none, ⟨286, 28, 286, 33⟩⟩, ⟨"step", none, ⟨286, 35, 286, 39⟩⟩], none, [], [], none, []⟩, ⟨.function, [("sizes", .local), ("limits", .local), ("state", .local), ("step", .local), ("names", .local), ("joints", .local), ("past", .local), ("word", .local), ("at", .local), ("over", .local), ("_law_over", .globalImplicit)], false, false, []⟩⟩
def f49_0 : S := (.asg (.tup (.cons (.var 5 "names" ⟨309, 4, 309, 9⟩) (.cons (.var 6 "joints" ⟨309, 11, 309, 17⟩) (.cons (.var 7 "past" ⟨309, 19, 309, 23⟩) .nil))) 0 ⟨309, 4, 309, 23⟩) (.var 4 "state" ⟨309, 26, 309, 31⟩) ⟨309, 4, 309, 31⟩)
def f49_1 : S := (.asg (.var 8 "told" ⟨310, 4, 310, 8⟩) (.lst false (.cons (.fld (.var 1 "ledger" ⟨310, 12, 310, 18⟩) "sizes" ⟨310, 12, 310, 24⟩) (.cons (.fld (.var 1 "ledger" ⟨310, 26, 310, 32⟩) "limits" ⟨310, 26, 310, 39⟩) (.cons (.fld (.var 1 "ledger" ⟨310, 41, 310, 47⟩) "names" ⟨310, 41, 310, 53⟩) (.cons (.mcl 31 "LeakLedger" "joints" (.var 1 "ledger" ⟨310, 55, 310, 61⟩) .nil .nil [] ⟨310, 55, 310, 68⟩ ⟨310, 55, 310, 70⟩) (.cons (.leni 24 "LeakLedger" (.var 1 "ledger" ⟨310, 76, 310, 82⟩) ⟨310, 72, 310, 75⟩ ⟨310, 72, 310, 83⟩) .nil))))) ⟨310, 11, 310, 84⟩) ⟨310, 4, 310, 84⟩)
def f49_2 : S := (.ite (.nott (.cal 39 "_law_same" (.cons (.var 8 "told" ⟨311, 21, 311, 25⟩) (.cons (.lst false (.cons (.var 2 "sizes" ⟨311, 28, 311, 33⟩) (.cons (.var 3 "limits" ⟨311, 35, 311, 41⟩) (.cons (.bif .tuple false (.cons (.var 5 "names" ⟨311, 49, 311, 54⟩) .nil) ⟨311, 43, 311, 48⟩ ⟨311, 43, 311, 55⟩) (.cons (.bif .tuple false (.cons (.var 6 "joints" ⟨311, 63, 311, 69⟩) .nil) ⟨311, 57, 311, 62⟩ ⟨311, 57, 311, 70⟩) (.cons (.bif .len false (.cons (.var 5 "names" ⟨311, 76, 311, 81⟩) .nil) ⟨311, 72, 311, 75⟩ ⟨311, 72, 311, 82⟩) .nil))))) ⟨311, 27, 311, 83⟩) .nil)) .nil [] ⟨311, 11, 311, 20⟩ ⟨311, 11, 311, 84⟩) ⟨311, 7, 311, 84⟩) (.seq (.ret (.bl false 0 ⟨312, 15, 312, 20⟩) ⟨312, 8, 312, 20⟩) .skip) .skip ⟨311, 4, 312, 20⟩)
def f49_3 : S := (.asg (.var 9 "whole" ⟨313, 4, 313, 9⟩) (.cal 42 "_law_inputs" (.cons (.var 2 "sizes" ⟨313, 24, 313, 29⟩) .nil) .nil [] ⟨313, 12, 313, 23⟩ ⟨313, 12, 313, 30⟩) ⟨313, 4, 313, 30⟩)
def f49_4 : S := (.asg (.var 10 "bounds" ⟨314, 4, 314, 10⟩) (.bif .dict false (.cons (.var 3 "limits" ⟨314, 18, 314, 24⟩) .nil) ⟨314, 13, 314, 17⟩ ⟨314, 13, 314, 25⟩) ⟨314, 4, 314, 25⟩)
def f49_5 : S := (.for_ (.var 11 "lot" ⟨315, 8, 315, 11⟩) (.exp (.cal 41 "_law_lots" (.cons (.bif .len false (.cons (.var 2 "sizes" ⟨315, 29, 315, 34⟩) .nil) ⟨315, 25, 315, 28⟩ ⟨315, 25, 315, 35⟩) .nil) .nil [] ⟨315, 15, 315, 24⟩ ⟨315, 15, 315, 36⟩)) (.seq (.asg (.var 12 "classes" ⟨316, 8, 316, 15⟩) (.cal 45 "_law_classes" (.cons (.var 2 "sizes" ⟨316, 31, 316, 36⟩) (.cons (.var 6 "joints" ⟨316, 38, 316, 44⟩) (.cons (.var 11 "lot" ⟨316, 46, 316, 49⟩) .nil))) .nil [] ⟨316, 18, 316, 30⟩ ⟨316, 18, 316, 50⟩) ⟨316, 8, 316, 50⟩) (.seq (.asg (.var 13 "rest" ⟨317, 8, 317, 12⟩) (.ite (.cmp .In (.var 11 "lot" ⟨317, 45, 317, 48⟩) (.var 10 "bounds" ⟨317, 52, 317, 58⟩) ⟨317, 45, 317, 58⟩) (.bin .Sub false (.sub (.var 10 "bounds" ⟨317, 15, 317, 21⟩) (.var 11 "lot" ⟨317, 22, 317, 25⟩) ⟨317, 15, 317, 26⟩) (.bif .len false (.cons (.var 12 "classes" ⟨317, 33, 317, 40⟩) .nil) ⟨317, 29, 317, 32⟩ ⟨317, 29, 317, 41⟩) ⟨317, 15, 317, 41⟩) (.non 0 ⟨317, 64, 317, 68⟩) ⟨317, 15, 317, 68⟩) ⟨317, 8, 317, 68⟩) (.seq (.asg (.var 14 "at" ⟨318, 8, 318, 10⟩) (.cal 38 "_law_pick" (.cons (.var 0 "source" ⟨318, 23, 318, 29⟩) (.cons (.bif .len false (.cons (.var 9 "whole" ⟨318, 35, 318, 40⟩) .nil) ⟨318, 31, 318, 34⟩ ⟨318, 31, 318, 41⟩) .nil)) .nil [] ⟨318, 13, 318, 22⟩ ⟨318, 13, 318, 42⟩) ⟨318, 8, 318, 42⟩) (.seq (.asg (.var 15 "mine" ⟨319, 8, 319, 12⟩) (.sub (.lc false (.var 18 "one" ⟨319, 16, 319, 19⟩) (.var 18 "one" ⟨319, 24, 319, 27⟩) (.exp (.var 12 "classes" ⟨319, 31, 319, 38⟩)) (.some (.cmp .In (.var 14 "at" ⟨319, 42, 319, 44⟩) (.var 18 "one" ⟨319, 48, 319, 51⟩) ⟨319, 42, 319, 51⟩)) [("one", 18)] ⟨.function, [(".0", .local), ("one", .local), ("at", .free)], false, false, []⟩ ⟨319, 15, 319, 52⟩) (.int 0 0 ⟨319, 53, 319, 54⟩) ⟨319, 15, 319, 55⟩) ⟨319, 8, 319, 55⟩) (.seq (.asg (.var 8 "told" ⟨320, 8, 320, 12⟩) (.lst false (.cons (.mcl 32 "LeakLedger" "classes" (.var 1 "ledger" ⟨320, 16, 320, 22⟩) .nil (.cons "lot" (.var 11 "lot" ⟨320, 35, 320, 38⟩) ⟨320, 31, 320, 38⟩ .nil) [0] ⟨320, 16, 320, 30⟩ ⟨320, 16, 320, 39⟩) (.cons (.mcl 33 "LeakLedger" "rest" (.var 1 "ledger" ⟨320, 41, 320, 47⟩) (.cons (.var 11 "lot" ⟨320, 53, 320, 56⟩) .nil) .nil [] ⟨320, 41, 320, 52⟩ ⟨320, 41, 320, 57⟩) (.cons (.mcl 34 "LeakLedger" "possible" (.var 1 "ledger" ⟨320, 59, 320, 65⟩) (.cons (.var 11 "lot" ⟨320, 75, 320, 78⟩) .nil) (.cons "inputs" (.sub (.var 9 "whole" ⟨320, 87, 320, 92⟩) (.var 14 "at" ⟨320, 93, 320, 95⟩) ⟨320, 87, 320, 96⟩) ⟨320, 80, 320, 96⟩ .nil) [0] ⟨320, 59, 320, 74⟩ ⟨320, 59, 320, 97⟩) .nil))) ⟨320, 15, 320, 98⟩) ⟨320, 8, 320, 98⟩) (.seq (.ite (.nott (.cal 39 "_law_same" (.cons (.var 8 "told" ⟨321, 25, 321, 29⟩) (.cons (.lst false (.cons (.var 12 "classes" ⟨321, 32, 321, 39⟩) (.cons (.var 13 "rest" ⟨321, 41, 321, 45⟩) (.cons (.bif .tuple false (.cons (.lc false (.sub (.var 9 "whole" ⟨321, 54, 321, 59⟩) (.var 17 "k" ⟨321, 60, 321, 61⟩) ⟨321, 54, 321, 62⟩) (.var 17 "k" ⟨321, 67, 321, 68⟩) (.exp (.var 15 "mine" ⟨321, 72, 321, 76⟩)) .none [("k", 17)] ⟨.function, [(".0", .local), ("k", .local), ("whole", .free)], false, false, []⟩ ⟨321, 53, 321, 77⟩) .nil) ⟨321, 47, 321, 52⟩ ⟨321, 47, 321, 78⟩) .nil))) ⟨321, 31, 321, 79⟩) .nil)) .nil [] ⟨321, 15, 321, 24⟩ ⟨321, 15, 321, 80⟩) ⟨321, 11, 321, 80⟩) (.seq (.ret (.bl false 0 ⟨322, 19, 322, 24⟩) ⟨322, 12, 322, 24⟩) .skip) .skip ⟨321, 8, 322, 24⟩) .skip)))))) ⟨315, 4, 322, 24⟩)
def f49_6 : S := (.asg (.var 16 "joint" ⟨323, 4, 323, 9⟩) (.cal 44 "_law_joint" (.cons (.var 0 "source" ⟨323, 23, 323, 29⟩) (.cons (.var 2 "sizes" ⟨323, 31, 323, 36⟩) .nil)) .nil [] ⟨323, 12, 323, 22⟩ ⟨323, 12, 323, 37⟩) ⟨323, 4, 323, 37⟩)
def f49_7 : S := (.ret (.cal 39 "_law_same" (.cons (.mcl 35 "LeakLedger" "would" (.var 1 "ledger" ⟨324, 21, 324, 27⟩) .nil (.cons "joint" (.var 16 "joint" ⟨324, 40, 324, 45⟩) ⟨324, 34, 324, 45⟩ .nil) [0] ⟨324, 21, 324, 33⟩ ⟨324, 21, 324, 46⟩) (.cons (.cal 46 "_law_over" (.cons (.var 2 "sizes" ⟨324, 58, 324, 63⟩) (.cons (.var 3 "limits" ⟨324, 65, 324, 71⟩) (.cons (.bin .Add false (.var 6 "joints" ⟨324, 73, 324, 79⟩) (.lst false (.cons (.var 16 "joint" ⟨324, 83, 324, 88⟩) .nil) ⟨324, 82, 324, 89⟩) ⟨324, 73, 324, 89⟩) .nil))) .nil [] ⟨324, 48, 324, 57⟩ ⟨324, 48, 324, 90⟩) .nil)) .nil [] ⟨324, 11, 324, 20⟩ ⟨324, 11, 324, 91⟩) ⟨324, 4, 324, 91⟩)
def f49_b : S := .seq f49_0 (.seq f49_1 (.seq f49_2 (.seq f49_3 (.seq f49_4 (.seq f49_5 (.seq f49_6 (.seq f49_7 .skip)))))))
/-- _law_stands -/
def f49 : FEnt := ⟨none, "_law_stands", "_law_stands", ["source", "ledger", "sizes", "limits", "state"], ["source", "ledger", "sizes", "limits", "state", "names", "joints", "past", "told", "whole", "bounds", "lot", "classes", "rest", "at", "mine", "joint", "k", "one"], f49_b, false, "_law_stands", ⟨[], [⟨"source", none, ⟨308, 16, 308, 22⟩⟩, ⟨"ledger", none, ⟨308, 24, 308, 30⟩⟩, ⟨"sizes", none, ⟨308, 32, 308, 37⟩⟩, ⟨"limits", none, ⟨308, 39, 308, 45⟩⟩, ⟨"state", none, ⟨308, 47, 308, 52⟩⟩], none, [], [], none, []⟩, ⟨.function, (("source", .local) :: ("ledger", .local) :: ("sizes", .local) :: ("limits", .local) :: ("state", .local) :: ("names", .local) :: ("joints", .local) :: ("past", .local) :: ("told", .local) :: ("whole", .cell) :: ("bounds", .local) :: ("lot", .local) :: ("classes", .local) :: ("rest", .local) :: ("at", .cell) :: ("mine", .local) :: ("joint", .local) :: ("len", .globalImplicit) :: ("_law_same", .globalImplicit) :: ("tuple", .globalImplicit) :: ("_law_inputs", .globalImplicit) :: ("dict", .globalImplicit) :: ("_law_lots", .globalImplicit) :: ("_law_classes", .globalImplicit) :: ("_law_pick", .globalImplicit) :: ("_law_joint", .globalImplicit) :: ("_law_over", .globalImplicit) :: []), false, false, (("fast", .str "source") :: ("fast", .str "ledger") :: ("fast", .str "sizes") :: ("fast", .str "limits") :: ("fast", .str "state") :: ("fast", .str "names") :: ("fast", .str "joints") :: ("fast", .str "past") :: ("fast", .str "told") :: ("fast", .str "whole") :: ("fast", .str "bounds") :: ("fast", .str "lot") :: ("fast", .str "classes") :: ("fast", .str "rest") :: ("fast", .str "at") :: ("fast", .str "one") :: ("fast", .str "mine") :: ("fast", .str "k") :: ("fast", .str "joint") :: [])⟩⟩
def f50_0 : S := (.asg (.var 2 "words" ⟨326, 4, 326, 9⟩) (.lst true .nil ⟨326, 12, 326, 14⟩) ⟨326, 4, 326, 14⟩)
def f50_1 : S := (.for_ (.var 3 "which" ⟨327, 8, 327, 13⟩) (.rng (.cons (.int 6 0 ⟨327, 23, 327, 24⟩) .nil) ⟨327, 17, 327, 22⟩ ⟨327, 17, 327, 25⟩) (.seq (.asg (.var 4 "word" ⟨328, 8, 328, 12⟩) (.str "" 0 ⟨328, 15, 328, 17⟩) ⟨328, 8, 328, 17⟩) (.seq (.try_ (.seq (.ite (.cmp .Eq (.var 3 "which" ⟨330, 15, 330, 20⟩) (.int 0 0 ⟨330, 24, 330, 25⟩) ⟨330, 15, 330, 25⟩) (.seq (.exp (.new 0 "LeakLedger" (.cons (.tup (.cons (.int 1 0 ⟨331, 28, 331, 29⟩) .nil) 0 ⟨331, 27, 331, 31⟩) (.cons (.non 0 ⟨331, 33, 331, 37⟩) .nil)) .nil [] ⟨331, 16, 331, 26⟩ ⟨331, 16, 331, 38⟩) ⟨331, 16, 331, 38⟩) .skip) (.seq (.ite (.cmp .Eq (.var 3 "which" ⟨332, 17, 332, 22⟩) (.int 1 0 ⟨332, 26, 332, 27⟩) ⟨332, 17, 332, 27⟩) (.seq (.exp (.new 0 "LeakLedger" (.cons (.var 1 "sizes" ⟨333, 27, 333, 32⟩) (.cons (.tup (.cons (.tup (.cons (.tup (.cons (.int 0 0 ⟨333, 37, 333, 38⟩) .nil) 0 ⟨333, 36, 333, 40⟩) (.cons (.int 0 0 ⟨333, 42, 333, 43⟩) .nil)) 0 ⟨333, 35, 333, 44⟩) .nil) 0 ⟨333, 34, 333, 46⟩) .nil)) .nil [] ⟨333, 16, 333, 26⟩ ⟨333, 16, 333, 47⟩) ⟨333, 16, 333, 47⟩) .skip) (.seq (.ite (.cmp .Eq (.var 3 "which" ⟨334, 17, 334, 22⟩) (.int 2 0 ⟨334, 26, 334, 27⟩) ⟨334, 17, 334, 27⟩) (.seq (.exp (.mcl 35 "LeakLedger" "would" (.var 0 "ledger" ⟨335, 16, 335, 22⟩) (.cons (.tup (.cons (.var 1 "sizes" ⟨335, 30, 335, 35⟩) (.cons (.tup .nil 0 ⟨335, 37, 335, 39⟩) .nil)) 0 ⟨335, 29, 335, 40⟩) .nil) .nil [] ⟨335, 16, 335, 28⟩ ⟨335, 16, 335, 41⟩) ⟨335, 16, 335, 41⟩) .skip) (.seq (.ite (.cmp .Eq (.var 3 "which" ⟨336, 17, 336, 22⟩) (.int 3 0 ⟨336, 26, 336, 27⟩) ⟨336, 17, 336, 27⟩) (.seq (.exp (.mcl 32 "LeakLedger" "classes" (.var 0 "ledger" ⟨337, 16, 337, 22⟩) (.cons (.tup (.cons (.int 9 0 ⟨337, 32, 337, 33⟩) .nil) 0 ⟨337, 31, 337, 35⟩) .nil) .nil [] ⟨337, 16, 337, 30⟩ ⟨337, 16, 337, 36⟩) ⟨337, 16, 337, 36⟩) .skip) (.seq (.ite (.cmp .Eq (.var 3 "which" ⟨338, 17, 338, 22⟩) (.int 4 0 ⟨338, 26, 338, 27⟩) ⟨338, 17, 338, 27⟩) (.seq (.exp (.mcl 34 "LeakLedger" "possible" (.var 0 "ledger" ⟨339, 16, 339, 22⟩) (.cons (.tup .nil 0 ⟨339, 32, 339, 34⟩) (.cons (.bin .Mult false (.tup (.cons (.int 9 0 ⟨339, 37, 339, 38⟩) .nil) 0 ⟨339, 36, 339, 40⟩) (.bif .len false (.cons (.var 1 "sizes" ⟨339, 47, 339, 52⟩) .nil) ⟨339, 43, 339, 46⟩ ⟨339, 43, 339, 53⟩) ⟨339, 36, 339, 53⟩) .nil)) .nil [] ⟨339, 16, 339, 31⟩ ⟨339, 16, 339, 54⟩) ⟨339, 16, 339, 54⟩) .skip) (.seq (.exp (.new 0 "LeakLedger" (.cons (.var 1 "sizes" ⟨341, 27, 341, 32⟩) (.cons (.tup (.cons (.tup (.cons (.tup (.cons (.int 1 0 ⟨341, 37, 341, 38⟩) .nil) 0 ⟨341, 36, 341, 40⟩) (.cons (.int 2 0 ⟨341, 42, 341, 43⟩) .nil)) 0 ⟨341, 35, 341, 44⟩) (.cons (.tup (.cons (.tup (.cons (.int 0 0 ⟨341, 48, 341, 49⟩) .nil) 0 ⟨341, 47, 341, 51⟩) (.cons (.int 2 0 ⟨341, 53, 341, 54⟩) .nil)) 0 ⟨341, 46, 341, 55⟩) .nil)) 0 ⟨341, 34, 341, 56⟩) .nil)) .nil [] ⟨341, 16, 341, 26⟩ ⟨341, 16, 341, 57⟩) ⟨341, 16, 341, 57⟩) .skip) ⟨338, 12, 341, 57⟩) .skip) ⟨336, 12, 341, 57⟩) .skip) ⟨334, 12, 341, 57⟩) .skip) ⟨332, 12, 341, 57⟩) .skip) ⟨330, 12, 341, 57⟩) .skip) (.hd "InvalidJoint" ⟨342, 15, 342, 27⟩ none (.seq (.asg (.var 4 "word" ⟨343, 12, 343, 16⟩) (.str "joint" 0 ⟨343, 19, 343, 26⟩) ⟨343, 12, 343, 26⟩) .skip) ⟨342, 8, 343, 26⟩ (.hd "InvalidLimits" ⟨344, 15, 344, 28⟩ none (.seq (.asg (.var 4 "word" ⟨345, 12, 345, 16⟩) (.str "limits" 0 ⟨345, 19, 345, 27⟩) ⟨345, 12, 345, 27⟩) .skip) ⟨344, 8, 345, 27⟩ (.hd "InvalidLot" ⟨346, 15, 346, 25⟩ none (.seq (.asg (.var 4 "word" ⟨347, 12, 347, 16⟩) (.str "lot" 0 ⟨347, 19, 347, 24⟩) ⟨347, 12, 347, 24⟩) .skip) ⟨346, 8, 347, 24⟩ (.hd "InvalidInputs" ⟨348, 15, 348, 28⟩ none (.seq (.asg (.var 4 "word" ⟨349, 12, 349, 16⟩) (.str "inputs" 0 ⟨349, 19, 349, 27⟩) ⟨349, 12, 349, 27⟩) .skip) ⟨348, 8, 349, 27⟩ .skip)))) ⟨329, 8, 349, 27⟩) (.seq (.exp (.mth .append (.var 2 "words" ⟨350, 8, 350, 13⟩) (.cons (.var 4 "word" ⟨350, 21, 350, 25⟩) .nil) ⟨350, 8, 350, 20⟩ ⟨350, 8, 350, 26⟩) ⟨350, 8, 350, 26⟩) .skip))) ⟨327, 4, 350, 26⟩)
def f50_2 : S := (.ret (.cmp .Eq (.var 2 "words" ⟨351, 11, 351, 16⟩) (.lst false (.cons (.str "joint" 0 ⟨351, 21, 351, 28⟩) (.cons (.str "limits" 0 ⟨351, 30, 351, 38⟩) (.cons (.str "joint" 0 ⟨351, 40, 351, 47⟩) (.cons (.str "lot" 0 ⟨351, 49, 351, 54⟩) (.cons (.str "inputs" 0 ⟨351, 56, 351, 64⟩) (.cons (.str "limits" 0 ⟨351, 66, 351, 74⟩) .nil)))))) ⟨351, 20, 351, 75⟩) ⟨351, 11, 351, 75⟩) ⟨351, 4, 351, 75⟩)
def f50_b : S := .seq f50_0 (.seq f50_1 (.seq f50_2 .skip))
/-- _law_refused -/
def f50 : FEnt := ⟨none, "_law_refused", "_law_refused", ["ledger", "sizes"], ["ledger", "sizes", "words", "which", "word"], f50_b, false, "_law_refused", ⟨[], [⟨"ledger", none, ⟨325, 17, 325, 23⟩⟩, ⟨"sizes", none, ⟨325, 25, 325, 30⟩⟩], none, [], [], none, []⟩, ⟨.function, [("ledger", .local), ("sizes", .local), ("words", .local), ("which", .local), ("word", .local), ("range", .globalImplicit), ("LeakLedger", .globalImplicit), ("len", .globalImplicit), ("InvalidJoint", .globalImplicit), ("InvalidLimits", .globalImplicit), ("InvalidLot", .globalImplicit), ("InvalidInputs", .globalImplicit)], false, false, []⟩⟩
def f51_0 : S := (.for_ (.var 1 "cell" ⟨353, 8, 353, 12⟩) (.exp (.slc false (.bin .Add false (.lst false (.cons (.int 99498743710661995473447982100120600517 0 ⟨353, 18, 353, 56⟩) .nil) ⟨353, 17, 353, 57⟩) (.var 0 "script" ⟨353, 60, 353, 66⟩) ⟨353, 17, 353, 66⟩) .none (.some (.int 7 0 ⟨353, 69, 353, 70⟩)) ⟨353, 68, 353, 70⟩ ⟨353, 16, 353, 71⟩)) (.seq (.asg (.var 2 "source" ⟨354, 8, 354, 14⟩) (.cal 37 "_law_source" (.cons (.var 1 "cell" ⟨354, 29, 354, 33⟩) .nil) .nil [] ⟨354, 17, 354, 28⟩ ⟨354, 17, 354, 34⟩) ⟨354, 8, 354, 34⟩) (.seq (.asg (.var 3 "sizes" ⟨355, 8, 355, 13⟩) (.bif .tuple false (.cons (.lc false (.bin .Add false (.int 1 0 ⟨355, 23, 355, 24⟩) (.cal 38 "_law_pick" (.cons (.var 2 "source" ⟨355, 37, 355, 43⟩) (.cons (.int 3 0 ⟨355, 45, 355, 46⟩) .nil)) .nil [] ⟨355, 27, 355, 36⟩ ⟨355, 27, 355, 47⟩) ⟨355, 23, 355, 47⟩) (.var 18 "hand" ⟨355, 52, 355, 56⟩) (.rng (.cons (.bin .Add false (.int 2 0 ⟨355, 66, 355, 67⟩) (.cal 38 "_law_pick" (.cons (.var 2 "source" ⟨355, 80, 355, 86⟩) (.cons (.int 2 0 ⟨355, 88, 355, 89⟩) .nil)) .nil [] ⟨355, 70, 355, 79⟩ ⟨355, 70, 355, 90⟩) ⟨355, 66, 355, 90⟩) .nil) ⟨355, 60, 355, 65⟩ ⟨355, 60, 355, 91⟩) .none [("hand", 18)] ⟨.function, [(".0", .local), ("hand", .local), ("_law_pick", .globalImplicit), ("source", .free)], false, false, []⟩ ⟨355, 22, 355, 92⟩) .nil) ⟨355, 16, 355, 21⟩ ⟨355, 16, 355, 93⟩) ⟨355, 8, 355, 93⟩) (.seq (.asg (.var 4 "lots" ⟨356, 8, 356, 12⟩) (.slc false (.cal 40 "_law_shuffled" (.cons (.var 2 "source" ⟨356, 29, 356, 35⟩) (.cons (.cal 41 "_law_lots" (.cons (.bif .len false (.cons (.var 3 "sizes" ⟨356, 51, 356, 56⟩) .nil) ⟨356, 47, 356, 50⟩ ⟨356, 47, 356, 57⟩) .nil) .nil [] ⟨356, 37, 356, 46⟩ ⟨356, 37, 356, 58⟩) .nil)) .nil [] ⟨356, 15, 356, 28⟩ ⟨356, 15, 356, 59⟩) .none (.some (.cal 38 "_law_pick" (.cons (.var 2 "source" ⟨356, 71, 356, 77⟩) (.cons (.int 4 0 ⟨356, 79, 356, 80⟩) .nil)) .nil [] ⟨356, 61, 356, 70⟩ ⟨356, 61, 356, 81⟩)) ⟨356, 60, 356, 81⟩ ⟨356, 15, 356, 82⟩) ⟨356, 8, 356, 82⟩) (.seq (.asg (.var 5 "limits" ⟨357, 8, 357, 14⟩) (.bif .tuple false (.cons (.lc false (.tup (.cons (.var 17 "lot" ⟨357, 25, 357, 28⟩) (.cons (.bin .Add false (.int 1 0 ⟨357, 30, 357, 31⟩) (.cal 38 "_law_pick" (.cons (.var 2 "source" ⟨357, 44, 357, 50⟩) (.cons (.int 8 0 ⟨357, 52, 357, 53⟩) .nil)) .nil [] ⟨357, 34, 357, 43⟩ ⟨357, 34, 357, 54⟩) ⟨357, 30, 357, 54⟩) .nil)) 0 ⟨357, 24, 357, 55⟩) (.var 17 "lot" ⟨357, 60, 357, 63⟩) (.exp (.bif .sorted false (.cons (.var 4 "lots" ⟨357, 74, 357, 78⟩) .nil) ⟨357, 67, 357, 73⟩ ⟨357, 67, 357, 79⟩)) .none [("lot", 17)] ⟨.function, [(".0", .local), ("lot", .local), ("_law_pick", .globalImplicit), ("source", .free)], false, false, []⟩ ⟨357, 23, 357, 80⟩) .nil) ⟨357, 17, 357, 22⟩ ⟨357, 17, 357, 81⟩) ⟨357, 8, 357, 81⟩) (.seq (.asg (.var 6 "ledger" ⟨358, 8, 358, 14⟩) (.new 0 "LeakLedger" (.cons (.var 3 "sizes" ⟨358, 28, 358, 33⟩) .nil) (.cons "limits" (.var 5 "limits" ⟨358, 42, 358, 48⟩) ⟨358, 35, 358, 48⟩ .nil) [0] ⟨358, 17, 358, 27⟩ ⟨358, 17, 358, 49⟩) ⟨358, 8, 358, 49⟩) (.seq (.asg (.var 7 "state" ⟨359, 8, 359, 13⟩) (.lst true (.cons (.lst false .nil ⟨359, 17, 359, 19⟩) (.cons (.lst false .nil ⟨359, 21, 359, 23⟩) (.cons (.lst false .nil ⟨359, 25, 359, 27⟩) .nil))) ⟨359, 16, 359, 28⟩) ⟨359, 8, 359, 28⟩) (.seq (.asg (.var 8 "names" ⟨360, 8, 360, 13⟩) (.lst false (.cons (.str "a" 0 ⟨360, 17, 360, 20⟩) (.cons (.str "b" 0 ⟨360, 22, 360, 25⟩) (.cons (.str "name" 0 ⟨360, 27, 360, 33⟩) (.cons (.str "zzzzzzzz" 0 ⟨360, 35, 360, 45⟩) .nil)))) ⟨360, 16, 360, 46⟩) ⟨360, 8, 360, 46⟩) (.seq (.for_ (.var 9 "turn" ⟨361, 12, 361, 16⟩) (.rng (.cons (.int 12 0 ⟨361, 26, 361, 28⟩) .nil) ⟨361, 20, 361, 25⟩ ⟨361, 20, 361, 29⟩) (.seq (.asg (.var 10 "way" ⟨362, 12, 362, 15⟩) (.cal 38 "_law_pick" (.cons (.var 2 "source" ⟨362, 28, 362, 34⟩) (.cons (.int 6 0 ⟨362, 36, 362, 37⟩) .nil)) .nil [] ⟨362, 18, 362, 27⟩ ⟨362, 18, 362, 38⟩) ⟨362, 12, 362, 38⟩) (.seq (.asg (.var 11 "name" ⟨363, 12, 363, 16⟩) (.sub (.var 8 "names" ⟨363, 19, 363, 24⟩) (.cal 38 "_law_pick" (.cons (.var 2 "source" ⟨363, 35, 363, 41⟩) (.cons (.int 4 0 ⟨363, 43, 363, 44⟩) .nil)) .nil [] ⟨363, 25, 363, 34⟩ ⟨363, 25, 363, 45⟩) ⟨363, 19, 363, 46⟩) ⟨363, 12, 363, 46⟩) (.seq (.asg (.var 12 "step" ⟨364, 12, 364, 16⟩) (.ite (.cmp .Lt (.var 10 "way" ⟨364, 64, 364, 67⟩) (.int 4 0 ⟨364, 70, 364, 71⟩) ⟨364, 64, 364, 71⟩) (.tup (.cons (.str "tell" 0 ⟨364, 20, 364, 26⟩) (.cons (.var 11 "name" ⟨364, 28, 364, 32⟩) (.cons (.cal 44 "_law_joint" (.cons (.var 2 "source" ⟨364, 45, 364, 51⟩) (.cons (.var 3 "sizes" ⟨364, 53, 364, 58⟩) .nil)) .nil [] ⟨364, 34, 364, 44⟩ ⟨364, 34, 364, 59⟩) .nil))) 0 ⟨364, 19, 364, 60⟩) (.ite (.cmp .Eq (.var 10 "way" ⟨364, 95, 364, 98⟩) (.int 4 0 ⟨364, 102, 364, 103⟩) ⟨364, 95, 364, 103⟩) (.tup (.cons (.str "drop" 0 ⟨364, 78, 364, 84⟩) (.cons (.var 11 "name" ⟨364, 86, 364, 90⟩) .nil)) 0 ⟨364, 77, 364, 91⟩) (.tup (.cons (.str "undo" 0 ⟨364, 110, 364, 116⟩) .nil) 0 ⟨364, 109, 364, 118⟩) ⟨364, 77, 364, 118⟩) ⟨364, 19, 364, 118⟩) ⟨364, 12, 364, 118⟩) (.seq (.ite (.nott (.cal 39 "_law_same" (.cons (.cal 47 "_law_done" (.cons (.var 6 "ledger" ⟨365, 39, 365, 45⟩) (.cons (.var 12 "step" ⟨365, 47, 365, 51⟩) .nil)) .nil [] ⟨365, 29, 365, 38⟩ ⟨365, 29, 365, 52⟩) (.cons (.cal 48 "_law_due" (.cons (.var 3 "sizes" ⟨365, 63, 365, 68⟩) (.cons (.var 5 "limits" ⟨365, 70, 365, 76⟩) (.cons (.var 7 "state" ⟨365, 78, 365, 83⟩) (.cons (.var 12 "step" ⟨365, 85, 365, 89⟩) .nil)))) .nil [] ⟨365, 54, 365, 62⟩ ⟨365, 54, 365, 90⟩) .nil)) .nil [] ⟨365, 19, 365, 28⟩ ⟨365, 19, 365, 91⟩) ⟨365, 15, 365, 91⟩) (.seq (.ret (.bl false 0 ⟨366, 23, 366, 28⟩) ⟨366, 16, 366, 28⟩) .skip) .skip ⟨365, 12, 366, 28⟩) (.seq (.ite (.cmp .Eq (.bin .Mod false (.var 9 "turn" ⟨367, 15, 367, 19⟩) (.int 4 0 ⟨367, 22, 367, 23⟩) ⟨367, 15, 367, 23⟩) (.int 3 0 ⟨367, 27, 367, 28⟩) ⟨367, 15, 367, 28⟩) (.seq (.ite (.nott (.cal 49 "_law_stands" (.cons (.var 2 "source" ⟨368, 35, 368, 41⟩) (.cons (.var 6 "ledger" ⟨368, 43, 368, 49⟩) (.cons (.var 3 "sizes" ⟨368, 51, 368, 56⟩) (.cons (.var 5 "limits" ⟨368, 58, 368, 64⟩) (.cons (.var 7 "state" ⟨368, 66, 368, 71⟩) .nil))))) .nil [] ⟨368, 23, 368, 34⟩ ⟨368, 23, 368, 72⟩) ⟨368, 19, 368, 72⟩) (.seq (.ret (.bl false 0 ⟨369, 27, 369, 32⟩) ⟨369, 20, 369, 32⟩) .skip) .skip ⟨368, 16, 369, 32⟩) (.seq (.asg (.var 13 "other" ⟨370, 16, 370, 21⟩) (.mcl 36 "LeakLedger" "twin" (.var 6 "ledger" ⟨370, 24, 370, 30⟩) .nil .nil [] ⟨370, 24, 370, 35⟩ ⟨370, 24, 370, 37⟩) ⟨370, 16, 370, 37⟩) (.seq (.asg (.var 14 "side" ⟨371, 16, 371, 20⟩) (.lst true (.cons (.bif .list false (.cons (.sub (.var 7 "state" ⟨371, 29, 371, 34⟩) (.int 0 0 ⟨371, 35, 371, 36⟩) ⟨371, 29, 371, 37⟩) .nil) ⟨371, 24, 371, 28⟩ ⟨371, 24, 371, 38⟩) (.cons (.bif .list false (.cons (.sub (.var 7 "state" ⟨371, 45, 371, 50⟩) (.int 1 0 ⟨371, 51, 371, 52⟩) ⟨371, 45, 371, 53⟩) .nil) ⟨371, 40, 371, 44⟩ ⟨371, 40, 371, 54⟩) (.cons (.bif .list false (.cons (.sub (.var 7 "state" ⟨371, 61, 371, 66⟩) (.int 2 0 ⟨371, 67, 371, 68⟩) ⟨371, 61, 371, 69⟩) .nil) ⟨371, 56, 371, 60⟩ ⟨371, 56, 371, 70⟩) .nil))) ⟨371, 23, 371, 71⟩) ⟨371, 16, 371, 71⟩) (.seq (.asg (.var 12 "step" ⟨372, 16, 372, 20⟩) (.tup (.cons (.str "drop" 0 ⟨372, 24, 372, 30⟩) (.cons (.var 11 "name" ⟨372, 32, 372, 36⟩) .nil)) 0 ⟨372, 23, 372, 37⟩) ⟨372, 16, 372, 37⟩) (.seq (.ite (.or_ (.cons (.nott (.cal 39 "_law_same" (.cons (.cal 47 "_law_done" (.cons (.var 13 "other" ⟨373, 43, 373, 48⟩) (.cons (.var 12 "step" ⟨373, 50, 373, 54⟩) .nil)) .nil [] ⟨373, 33, 373, 42⟩ ⟨373, 33, 373, 55⟩) (.cons (.cal 48 "_law_due" (.cons (.var 3 "sizes" ⟨373, 66, 373, 71⟩) (.cons (.var 5 "limits" ⟨373, 73, 373, 79⟩) (.cons (.var 14 "side" ⟨373, 81, 373, 85⟩) (.cons (.var 12 "step" ⟨373, 87, 373, 91⟩) .nil)))) .nil [] ⟨373, 57, 373, 65⟩ ⟨373, 57, 373, 92⟩) .nil)) .nil [] ⟨373, 23, 373, 32⟩ ⟨373, 23, 373, 93⟩) ⟨373, 19, 373, 93⟩) (.cons (.nott (.cal 49 "_law_stands" (.cons (.var 2 "source" ⟨373, 113, 373, 119⟩) (.cons (.var 13 "other" ⟨373, 121, 373, 126⟩) (.cons (.var 3 "sizes" ⟨373, 128, 373, 133⟩) (.cons (.var 5 "limits" ⟨373, 135, 373, 141⟩) (.cons (.var 14 "side" ⟨373, 143, 373, 147⟩) .nil))))) .nil [] ⟨373, 101, 373, 112⟩ ⟨373, 101, 373, 148⟩) ⟨373, 97, 373, 148⟩) .nil)) ⟨373, 19, 373, 148⟩) (.seq (.ret (.bl false 0 ⟨374, 27, 374, 32⟩) ⟨374, 20, 374, 32⟩) .skip) .skip ⟨373, 16, 374, 32⟩) .skip))))) .skip ⟨367, 12, 374, 32⟩) .skip))))) ⟨361, 8, 374, 32⟩) (.seq (.asg (.var 15 "odd" ⟨375, 8, 375, 11⟩) (.sub (.lst false (.cons (.non 0 ⟨375, 15, 375, 19⟩) (.cons (.str "A" 0 ⟨375, 21, 375, 24⟩) (.cons (.str "" 0 ⟨375, 26, 375, 28⟩) (.cons (.str "abcdefghi" 0 ⟨375, 30, 375, 41⟩) (.cons (.int 5 0 ⟨375, 43, 375, 44⟩) .nil))))) ⟨375, 14, 375, 45⟩) (.cal 38 "_law_pick" (.cons (.var 2 "source" ⟨375, 56, 375, 62⟩) (.cons (.int 5 0 ⟨375, 64, 375, 65⟩) .nil)) .nil [] ⟨375, 46, 375, 55⟩ ⟨375, 46, 375, 66⟩) ⟨375, 14, 375, 67⟩) ⟨375, 8, 375, 67⟩) (.seq (.asg (.var 16 "found" ⟨376, 8, 376, 13⟩) (.lst false (.cons (.cal 47 "_law_done" (.cons (.var 6 "ledger" ⟨376, 27, 376, 33⟩) (.cons (.tup (.cons (.str "tell" 0 ⟨376, 36, 376, 42⟩) (.cons (.var 15 "odd" ⟨376, 44, 376, 47⟩) (.cons (.non 0 ⟨376, 49, 376, 53⟩) .nil))) 0 ⟨376, 35, 376, 54⟩) .nil)) .nil [] ⟨376, 17, 376, 26⟩ ⟨376, 17, 376, 55⟩) (.cons (.cal 47 "_law_done" (.cons (.var 6 "ledger" ⟨376, 67, 376, 73⟩) (.cons (.tup (.cons (.str "tell" 0 ⟨376, 76, 376, 82⟩) (.cons (.str "fresh" 0 ⟨376, 84, 376, 91⟩) (.cons (.non 0 ⟨376, 93, 376, 97⟩) .nil))) 0 ⟨376, 75, 376, 98⟩) .nil)) .nil [] ⟨376, 57, 376, 66⟩ ⟨376, 57, 376, 99⟩) (.cons (.cal 47 "_law_done" (.cons (.var 6 "ledger" ⟨376, 111, 376, 117⟩) (.cons (.tup (.cons (.str "drop" 0 ⟨376, 120, 376, 126⟩) (.cons (.str "fresh" 0 ⟨376, 128, 376, 135⟩) .nil)) 0 ⟨376, 119, 376, 136⟩) .nil)) .nil [] ⟨376, 101, 376, 110⟩ ⟨376, 101, 376, 137⟩) .nil))) ⟨376, 16, 376, 138⟩) ⟨376, 8, 376, 138⟩) (.seq (.ite (.or_ (.cons (.nott (.cal 39 "_law_same" (.cons (.var 16 "found" ⟨377, 25, 377, 30⟩) (.cons (.lst false (.cons (.tup (.cons (.str "name" 0 ⟨377, 34, 377, 40⟩) .nil) 0 ⟨377, 33, 377, 42⟩) (.cons (.tup (.cons (.str "joint" 0 ⟨377, 45, 377, 52⟩) .nil) 0 ⟨377, 44, 377, 54⟩) (.cons (.tup (.cons (.str "unknown" 0 ⟨377, 57, 377, 66⟩) (.cons (.str "fresh" 0 ⟨377, 68, 377, 75⟩) .nil)) 0 ⟨377, 56, 377, 76⟩) .nil))) ⟨377, 32, 377, 77⟩) .nil)) .nil [] ⟨377, 15, 377, 24⟩ ⟨377, 15, 377, 78⟩) ⟨377, 11, 377, 78⟩) (.cons (.nott (.cal 50 "_law_refused" (.cons (.var 6 "ledger" ⟨377, 99, 377, 105⟩) (.cons (.var 3 "sizes" ⟨377, 107, 377, 112⟩) .nil)) .nil [] ⟨377, 86, 377, 98⟩ ⟨377, 86, 377, 113⟩) ⟨377, 82, 377, 113⟩) .nil)) ⟨377, 11, 377, 113⟩) (.seq (.ret (.bl false 0 ⟨378, 19, 378, 24⟩) ⟨378, 12, 378, 24⟩) .skip) .skip ⟨377, 8, 378, 24⟩) .skip))))))))))) ⟨353, 4, 378, 24⟩)
def f51_1 : S := (.ret (.bl true 0 ⟨379, 11, 379, 15⟩) ⟨379, 4, 379, 15⟩)
def f51_b : S := .seq f51_0 (.seq f51_1 .skip)
/-- law -/
def f51 : FEnt := ⟨none, "law", "law", ["script"], ["script", "cell", "source", "sizes", "lots", "limits", "ledger", "state", "names", "turn", "way", "name", "step", "other", "side", "odd", "found", "lot", "hand"], f51_b, false, "law", ⟨[], [⟨"script", none, ⟨352, 8, 352, 14⟩⟩], none, [], [], none, []⟩, ⟨.function, (("script", .local) :: ("cell", .local) :: ("source", .cell) :: ("sizes", .local) :: ("lots", .local) :: ("limits", .local) :: ("ledger", .local) :: ("state", .local) :: ("names", .local) :: ("turn", .local) :: ("way", .local) :: ("name", .local) :: ("step", .local) :: ("other", .local) :: ("side", .local) :: ("odd", .local) :: ("found", .local) :: ("_law_source", .globalImplicit) :: ("tuple", .globalImplicit) :: ("range", .globalImplicit) :: ("_law_pick", .globalImplicit) :: ("_law_shuffled", .globalImplicit) :: ("_law_lots", .globalImplicit) :: ("len", .globalImplicit) :: ("sorted", .globalImplicit) :: ("LeakLedger", .globalImplicit) :: ("_law_joint", .globalImplicit) :: ("_law_same", .globalImplicit) :: ("_law_done", .globalImplicit) :: ("_law_due", .globalImplicit) :: ("_law_stands", .globalImplicit) :: ("list", .globalImplicit) :: ("_law_refused", .globalImplicit) :: []), false, false, (("fast", .str "script") :: ("fast", .str "cell") :: ("fast", .str "source") :: ("fast", .str "hand") :: ("fast", .str "sizes") :: ("fast", .str "lots") :: ("fast", .str "lot") :: ("fast", .str "limits") :: ("fast", .str "ledger") :: ("fast", .str "state") :: ("fast", .str "names") :: ("fast", .str "turn") :: ("fast", .str "way") :: ("fast", .str "name") :: ("fast", .str "step") :: ("fast", .str "other") :: ("fast", .str "side") :: ("fast", .str "odd") :: ("fast", .str "found") :: [])⟩⟩
def fns0 : List FEnt := [f0, f1, f2, f3, f4, f5, f6, f7, f8, f9, f10, f11, f12, f13, f14, f15, f16, f17, f18, f19]
def fns1 : List FEnt := [f20, f21, f22, f23, f24, f25, f26, f27, f28, f29, f30, f31, f32, f33, f34, f35, f36, f37, f38, f39]
def fns2 : List FEnt := [f40, f41, f42, f43, f44, f45, f46, f47, f48, f49, f50, f51]
def T : Tab where
  fns := fns0 ++ fns1 ++ fns2
  cls := [⟨"LeakLedger", 23⟩]
  cns := [("LETTERS", .str "abcdefghijklmnopqrstuvwxyz"), ("LEAST_HANDS", .int 2), ("MOST_HANDS", .int 4), ("MOST_OUT", .int 9), ("MOST_SIZE", .int 6)]
  sub := (("InvalidName", "NothingToUndo", false) :: ("InvalidName", "TooMuch", false) :: ("InvalidName", "Unknown", false) :: ("InvalidName", "Taken", false) :: ("InvalidName", "InvalidJoint", false) :: ("InvalidName", "InvalidName", true) :: ("InvalidName", "InvalidInputs", false) :: ("InvalidName", "InvalidLot", false) :: ("InvalidName", "InvalidLimits", false) :: ("InvalidLot", "NothingToUndo", false) :: ("InvalidLot", "TooMuch", false) :: ("InvalidLot", "Unknown", false) :: ("InvalidLot", "Taken", false) :: ("InvalidLot", "InvalidJoint", false) :: ("InvalidLot", "InvalidName", false) :: ("InvalidLot", "InvalidInputs", false) :: ("InvalidLot", "InvalidLot", true) :: ("InvalidLot", "InvalidLimits", false) :: ("InvalidInputs", "NothingToUndo", false) :: ("InvalidInputs", "TooMuch", false) :: ("InvalidInputs", "Unknown", false) :: ("InvalidInputs", "Taken", false) :: ("InvalidInputs", "InvalidJoint", false) :: ("InvalidInputs", "InvalidName", false) :: ("InvalidInputs", "InvalidInputs", true) :: ("InvalidInputs", "InvalidLot", false) :: ("InvalidInputs", "InvalidLimits", false) :: ("InvalidJoint", "NothingToUndo", false) :: ("InvalidJoint", "TooMuch", false) :: ("InvalidJoint", "Unknown", false) :: ("InvalidJoint", "Taken", false) :: ("InvalidJoint", "InvalidJoint", true) :: ("InvalidJoint", "InvalidName", false) :: ("InvalidJoint", "InvalidInputs", false) :: ("InvalidJoint", "InvalidLot", false) :: ("InvalidJoint", "InvalidLimits", false) :: ("InvalidLimits", "NothingToUndo", false) :: ("InvalidLimits", "TooMuch", false) :: ("InvalidLimits", "Unknown", false) :: ("InvalidLimits", "Taken", false) :: ("InvalidLimits", "InvalidJoint", false) :: ("InvalidLimits", "InvalidName", false) :: ("InvalidLimits", "InvalidInputs", false) :: ("InvalidLimits", "InvalidLot", false) :: ("InvalidLimits", "InvalidLimits", true) :: ("Taken", "NothingToUndo", false) :: ("Taken", "TooMuch", false) :: ("Taken", "Unknown", false) :: ("Taken", "Taken", true) :: ("Taken", "InvalidJoint", false) :: ("Taken", "InvalidName", false) :: ("Taken", "InvalidInputs", false) :: ("Taken", "InvalidLot", false) :: ("Taken", "InvalidLimits", false) :: ("TooMuch", "NothingToUndo", false) :: ("TooMuch", "TooMuch", true) :: ("TooMuch", "Unknown", false) :: ("TooMuch", "Taken", false) :: ("TooMuch", "InvalidJoint", false) :: ("TooMuch", "InvalidName", false) :: ("TooMuch", "InvalidInputs", false) :: ("TooMuch", "InvalidLot", false) :: ("TooMuch", "InvalidLimits", false) :: ("Unknown", "NothingToUndo", false) :: ("Unknown", "TooMuch", false) :: ("Unknown", "Unknown", true) :: ("Unknown", "Taken", false) :: ("Unknown", "InvalidJoint", false) :: ("Unknown", "InvalidName", false) :: ("Unknown", "InvalidInputs", false) :: ("Unknown", "InvalidLot", false) :: ("Unknown", "InvalidLimits", false) :: ("NothingToUndo", "NothingToUndo", true) :: ("NothingToUndo", "TooMuch", false) :: ("NothingToUndo", "Unknown", false) :: ("NothingToUndo", "Taken", false) :: ("NothingToUndo", "InvalidJoint", false) :: ("NothingToUndo", "InvalidName", false) :: ("NothingToUndo", "InvalidInputs", false) :: ("NothingToUndo", "InvalidLot", false) :: ("NothingToUndo", "InvalidLimits", false) :: [])
  att := [("LeakLedger", "sizes"), ("LeakLedger", "limits"), ("LeakLedger", "names"), ("LeakLedger", "kept"), ("LeakLedger", "past")]
  frees := ["isinstance", "bool", "int", "len", "str", "all", "tuple", "range", "zip", "enumerate", "sorted", "dict", "list"]
  kws := [(28, 1, ["name", "joint"], [0, 1]), (29, 1, ["name"], [0]), (34, 2, ["inputs"], [0]), (32, 1, ["lot"], [0]), (35, 1, ["joint"], [0]), (23, 2, ["limits"], [0])]
  nkw := []
  exs := ["InvalidName", "InvalidLot", "InvalidInputs", "InvalidJoint", "InvalidLimits", "NothingToUndo"]
  exf := [("Taken", "name"), ("TooMuch", "lot"), ("Unknown", "name")]
end Lw
/-! Numbers and lists, with no program in sight. -/
namespace Lw
theorem snoc_ind {α : Type} {P : List α → Prop} (h0 : P []) (hs : ∀ pre a, P pre → P (pre ++ [a])) (l : List α) : P l := by
  have key : ∀ (l pre : List α), P pre → P (pre ++ l) := by
    intro l
    induction l with
    | nil => intro pre h; rw [List.append_nil]; exact h
    | cons a r ih =>
      intro pre h
      have z := ih (pre ++ [a]) (hs pre a h)
      rw [List.append_assoc] at z
      exact z
  exact key l [] h0
/-- all input tuples -/
def ins (sz : List Nat) : List (List Nat) := sz.foldl (fun found s => found.flatMap fun row => (List.range s).map fun one => row ++ [one]) [[]]
theorem ins_snoc (sz : List Nat) (s : Nat) : ins (sz ++ [s]) = (ins sz).flatMap fun row => (List.range s).map fun one => row ++ [one] := by
  unfold ins
  rw [List.foldl_append]
  rfl
def place (sz inp : List Nat) : Nat := (inp.zip sz).foldl (fun p q => p * q.2 + q.1) 0
theorem place_snoc {sz inp : List Nat} (s r : Nat) (l : inp.length = sz.length) : place (sz ++ [s]) (inp ++ [r]) = place sz inp * s + r := by
  unfold place
  rw [List.zip_append l, List.foldl_append]
  rfl
theorem ins_len {sz : List Nat} : ∀ inp ∈ ins sz, inp.length = sz.length := by
  refine snoc_ind (P := fun sz => ∀ inp ∈ ins sz, inp.length = sz.length) ?_ ?_ sz
  · intro inp hm
    have : inp = [] := by simpa [ins] using hm
    rw [this]
  · intro sz s ih inp hm
    rw [ins_snoc, List.mem_flatMap] at hm
    obtain ⟨row, h1, h2⟩ := hm
    obtain ⟨r, _, rfl⟩ := List.mem_map.mp h2
    rw [List.length_append, List.length_append, ih row h1]
    rfl
theorem ins_lt {sz : List Nat} : ∀ inp ∈ ins sz, ∀ p ∈ inp.zip sz, p.1 < p.2 := by
  refine snoc_ind (P := fun sz => ∀ inp ∈ ins sz, ∀ p ∈ inp.zip sz, p.1 < p.2) ?_ ?_ sz
  · intro inp hm p hp
    rw [List.zip_nil_right] at hp
    cases hp
  · intro sz s ih inp hm p hp
    rw [ins_snoc, List.mem_flatMap] at hm
    obtain ⟨row, h1, h2⟩ := hm
    obtain ⟨r, hr, rfl⟩ := List.mem_map.mp h2
    rw [List.zip_append (ins_len row h1), List.mem_append] at hp
    rcases hp with hp | hp
    · exact ih row h1 p hp
    · have : p = (r, s) := by simpa using hp
      rw [this]
      exact List.mem_range.mp hr
theorem range_mul (m s : Nat) : ((List.range m).flatMap fun q => (List.range s).map fun r => q * s + r) = List.range (m * s) := by
  induction m with
  | zero => simp
  | succ m ih =>
    rw [List.range_succ, List.flatMap_append, ih, Nat.succ_mul, List.range_add]
    simp
theorem ins_place (sz : List Nat) : (ins sz).map (place sz) = List.range (ins sz).length := by
  refine snoc_ind (P := fun sz => (ins sz).map (place sz) = List.range (ins sz).length) ?_ ?_ sz
  · rfl
  · intro sz s ih
    have e1 : (ins (sz ++ [s])).map (place (sz ++ [s])) = (ins sz).flatMap fun row => (List.range s).map fun r => place sz row * s + r := by
      rw [ins_snoc, List.map_flatMap]
      have key : ∀ l : List (List Nat), (∀ row ∈ l, row.length = sz.length) → (l.flatMap fun row => ((List.range s).map fun one => row ++ [one]).map (place (sz ++ [s]))) = l.flatMap fun row => (List.range s).map fun r => place sz row * s + r := by
        intro l hl
        induction l with
        | nil => rfl
        | cons row l ihl =>
          rw [List.flatMap_cons, List.flatMap_cons, ihl fun x hx => hl x (List.mem_cons_of_mem _ hx), List.map_map]
          congr 1
          refine List.map_congr_left fun r _ => ?_
          exact place_snoc s r (hl row List.mem_cons_self)
      exact key _ ins_len
    have e2 : ((ins sz).flatMap fun row => (List.range s).map fun r => place sz row * s + r) = ((ins sz).map (place sz)).flatMap fun q => (List.range s).map fun r => q * s + r := by
      rw [List.flatMap_map]
    have e3 : (ins (sz ++ [s])).length = (ins sz).length * s := by
      have z := congrArg List.length (e1.trans e2)
      rw [ih, range_mul, List.length_map, List.length_range] at z
      exact z
    rw [e1, e2, ih, range_mul, e3]
theorem place_at {sz : List Nat} {k : Nat} {inp : List Nat} (e : (ins sz)[k]? = some inp) : place sz inp = k := by
  have z := congrArg (fun l => l[k]?) (ins_place sz)
  simp only [List.getElem?_map, e, Option.map_some] at z
  have hk : k < (ins sz).length := (List.getElem?_eq_some_iff.mp e).1
  rw [List.getElem?_range hk] at z
  exact Option.some.inj z
theorem at_place {sz : List Nat} {inp : List Nat} (h : inp ∈ ins sz) : (ins sz)[place sz inp]? = some inp := by
  obtain ⟨k, hk, e⟩ := List.mem_iff_getElem.mp h
  have e' : (ins sz)[k]? = some inp := by rw [List.getElem?_eq_getElem hk, e]
  rw [place_at e']
  exact e'
theorem place_lt {sz : List Nat} {inp : List Nat} (h : inp ∈ ins sz) : place sz inp < (ins sz).length := (List.getElem?_eq_some_iff.mp (at_place h)).1
theorem ins_le {sz : List Nat} (h : ∀ s ∈ sz, s ≤ 3) : (ins sz).length ≤ 3 ^ sz.length := by
  refine snoc_ind (P := fun sz => (∀ s ∈ sz, s ≤ 3) → (ins sz).length ≤ 3 ^ sz.length) ?_ ?_ sz h
  · intro _; decide
  · intro sz s ih h
    have i := ih fun x hx => h x (List.mem_append_left _ hx)
    have hs := h s (List.mem_append_right _ List.mem_cons_self)
    have : (ins (sz ++ [s])).length = (ins sz).length * s := by
      rw [ins_snoc, List.length_flatMap]
      simp only [List.length_map, List.length_range]
      induction (ins sz) with
      | nil => simp
      | cons a r ih => simp [ih, Nat.succ_mul]; omega
    rw [this, List.length_append]
    show _ ≤ 3 ^ (sz.length + 1)
    rw [Nat.pow_succ]
    exact Nat.mul_le_mul i hs
theorem ins_pos {sz : List Nat} (h : ∀ s ∈ sz, 1 ≤ s) : 0 < (ins sz).length := by
  refine snoc_ind (P := fun sz => (∀ s ∈ sz, 1 ≤ s) → 0 < (ins sz).length) ?_ ?_ sz h
  · intro _; decide
  · intro sz s ih h
    have i := ih fun x hx => h x (List.mem_append_left _ hx)
    have hs := h s (List.mem_append_right _ List.mem_cons_self)
    obtain ⟨row, hr⟩ := List.exists_mem_of_length_pos i
    refine List.length_pos_of_mem (a := row ++ [0]) ?_
    rw [ins_snoc, List.mem_flatMap]
    exact ⟨row, hr, List.mem_map.mpr ⟨0, List.mem_range.mpr hs, rfl⟩⟩
end Lw
namespace Lw
open PySem PySem.Spec PyProof.Rows L2 Rf
local macro_rules | `(tactic| simp_arith [$ts,*]) => `(tactic| simp -failIfUnchanged (disch := first | assumption | omega) only [opB_some, opO_some, bd_ok, bd_ex, bd_rok, out_ok, out_rok, out_ex, bd_ite, out_ite, pz_nx_ok, nx_rok, varW_d, varW_r, ev_var, ev_int, ev_str, ev_bl, ev_non, ev_glo, ev_bin, negW_i, ev_neg, ev_nott, ev_cmp, ev_chn, ev_ite, ev_tup, ev_lst, ev_dic, ev_sub, ev_slc, ev_rev, ev_fld, ev_exf, ev_cal, ev_mcl, ev_new, ev_bif, ev_isi, ev_leni, ev_mth, and_1, and_2, or_1, or_2, ev_and, ev_or, es_nil, es_cons, ks_nil, ks_cons, pz_o_none, o1_i, pz_o_some, c_none, c_some, pz_i_exp, pz_i_rng, pz_i_enu, pz_i_zip, pz_i_vals, i_items, as_var, as_tup, asT_tup, asT_lst, as_sub, as_fld, ass_nil, ass_cons, asP_2, by_one, by_two, s_skip, sq_nx, sq_rt, sq_bk, sq_ct, sq_ex, sq_ite, s_seq, s_asg, s_par2, s_par3, s_aug, s_exp, s_ret, s_retN, tst_ok, tst_ex, pz_tst_ite, pz_s_ite, s_for, s_brk, s_cnt, s_pas, s_rai, rafW_d, s_raf, try_ex, try_nx, try_rt, s_try, h_hd0, h_hd1, pz_h_skip,
    res_d, res_nx, res_ex, mkt_0, mkt_1, mkt_2, mkt_3, mkt_4, mkl_0, mkl_1, mkl_2, mkl_3, mkl_4, mkl_5, mkl_6, mkm_0, mkm_1, mkm_2, mkm_3, tru_b, tru_i, tru_n, tru_t, tru_l, bin_add, bin_sub, bin_mod, cmp_lt, cmp_gt, cmp_le, cmp_ge, cmp_is, cmp_isn, cmp_eqi, cmp_nei, sub_t0, sub_t1, sub_t2, sub_l0, sub_l1, sub_l2, len_t, len_l, all_l, any_l, int_i, src_l, src_t, home_ok, home_exr, forS_ws, lcS_ws, begE,
    List.getElem?_cons_zero, List.getElem?_cons_succ, List.set_cons_zero, List.set_cons_succ, List.map_cons, List.map_nil, List.nil_append, List.cons_append, List.length_cons, List.length_nil, List.replicate_succ, List.replicate_zero, Nat.reduceAdd, Nat.reduceSub, if_true, if_false, Bool.false_eq_true, if_pos, ordW_n, ordW_01, ordW_02, ordW_11, List.append_nil, wipeE, isNone, Bool.not_true, Bool.not_false, Bool.not_not, CtN_fn, CtN_new, CtN_cn, CtN_sub, CtN_att, CtN_wf, CtN_sp, isi_t, isi_l, isi_i, isi_b, isi_s, isi_n, isiB, Int.cast_ofNat_Int, Int.reduceBEq, Int.reduceBNe, Int.reduceLT, Int.reduceLE, Int.reduceNeg, Int.reduceAdd, Int.reduceSub, Int.reduceEq, beq_self_eq_true, decide_true, decide_false, Bool.and_true, Bool.true_and, Bool.and_false, Bool.false_and, $ts,*])
/-! the program's defs: what they tell -/
section
variable {n : Nat} {h : Hs}
def isInt : D → Bool
  | .int _ => true
  | _ => false
theorem e_is_integer (hn : 2 ≤ n) (x : D) (hx : ∀ k, x ≠ .dict k) : callN T 100 n 4 [.d x] h = .ok (.d (.bool (isInt x))) h := by
  rw [call_d (fe := f4) hn rfl rfl rfl]
  cases x with
  | dict k => exact absurd rfl (hx k)
  | _ => simp_arith [f4, f4_b, f4_0, isInt]
theorem e_is_integer_i (hn : 2 ≤ n) (i : Int) : callN T 100 n 4 [.d (.int i)] h = .ok (.d (.bool true)) h := e_is_integer hn _ (fun _ e => by cases e)
theorem e_within (hn : 3 ≤ n) (i lo hi : Int) : callN T 100 n 5 [.d (.int i), .d (.int lo), .d (.int hi)] h = .ok (.d (.bool (decide (lo ≤ i) && decide (i ≤ hi)))) h := by
  rw [call_d (fe := f5) (by omega) rfl rfl rfl]
  simp_arith [f5, f5_b, f5_0, e_is_integer_i]
  by_cases c : lo ≤ i
  · simp_arith [c, decide_true, Bool.true_and]
  · simp_arith [c, decide_false, Bool.false_and]
def L (xs : List D) : D := .list xs
structure Sz (sz : List Nat) : Prop where
  two : 2 ≤ sz.length
  three : sz.length ≤ 3
  pos : ∀ s ∈ sz, 1 ≤ s
  le : ∀ s ∈ sz, s ≤ 3
theorem lc_nat {C : Ct} {e : Rf.Env} {h1 : Hs} (i : Nat) (x : Str) (p : Pos) (xs : List Nat) (hx : e[i]? = some (some (.d (N xs)))) : evI C (.exp (.var i x p)) e h1 = .ok (.ws (xs.map fun k : Nat => .one (.d (.int k)))) h1 := by
  simp_arith [hx, N]
  rw [wd_map]
theorem cn2 : T.cn "LEAST_HANDS" = some (.int 2) := by rfl
theorem cn4 : T.cn "MOST_HANDS" = some (.int 4) := by rfl
theorem cn9 : T.cn "MOST_OUT" = some (.int 9) := by rfl
theorem cn6 : T.cn "MOST_SIZE" = some (.int 6) := by rfl
theorem e_sizes (hn : 4 ≤ n) (sz : List Nat) (hs : Sz sz) : callN T 100 n 6 [.d (N sz), .d (.int 6)] h = .ok (.d (.bool true)) h := by
  rw [call_d (fe := f6) (by omega) rfl rfl rfl]
  have h2 := hs.two
  have h3 := hs.three
  have z1 : ((2 : Int) ≤ (sz.length : Int)) = True := eq_true (by omega)
  have z2 : ((sz.length : Int) ≤ (4 : Int)) = True := eq_true (by omega)
  simp_arith [f6, f6_b, f6_0, f6_1, N, cn2, cn4, List.length_map, z1, z2, decide_true]
  rw [lc_map sz (fun k : Nat => .one (.d (.int k))) (fun k : Nat => .bool (decide (1 ≤ (k : Int)) && decide ((k : Int) ≤ 6))) (lc_nat _ _ _ sz rfl) (lim_of (by omega)) (fun a ha => by simp_arith [lcT, e_within])]
  rw [map_bool]
  simp_arith []
  rw [all_true]
  intro x hx
  have := hs.pos x hx
  have := hs.le x hx
  rw [Bool.and_eq_true, decide_eq_true_eq, decide_eq_true_eq]
  omega
end
/-! the program's defs: joint tables -/
section
variable {n : Nat} {h : Hs}
theorem ll : lim = 10000000 := rfl
theorem Sz.len {sz : List Nat} (hs : Sz sz) : (ins sz).length ≤ 27 := Nat.le_trans (ins_le hs.le) (Nat.le_trans (Nat.pow_le_pow_right (by omega) hs.three) (by decide))
theorem pre_len {sz p r : List Nat} (hs : Sz sz) (e : p ++ r = sz) : (ins p).length ≤ 27 := by
  refine Nat.le_trans (ins_le fun s hm => hs.le s (by rw [← e]; exact List.mem_append_left _ hm)) (Nat.le_trans (Nat.pow_le_pow_right (n := 3) (by omega) (?_ : p.length ≤ 3)) (by decide))
  have := hs.three
  rw [← e, List.length_append] at this
  omega
theorem N_snoc (row : List Nat) (r : Nat) : PyData.tuple (row.map (fun k : Nat => PyData.int k) ++ [.int r]) = N (row ++ [r]) := by
  unfold N
  rw [List.map_append]
  rfl
theorem flat_N (rows : List (List Nat)) (s : Nat) : (rows.flatMap fun row => (List.range s).map fun one => N (row ++ [one])) = (rows.flatMap fun row => (List.range s).map fun one => row ++ [one]).map N := by
  rw [List.map_flatMap]
  simp only [List.map_map]
  rfl
theorem ins_row {p r : List Nat} {s : Nat} {sz : List Nat} (hs : Sz sz) (e : p ++ s :: r = sz) : (ins (p ++ [s])).length ≤ 27 := pre_len hs (r := r) (by rw [List.append_assoc]; exact e)
theorem e_inputs (hn : 2 ≤ n) (sz : List Nat) (hs : Sz sz) : callN T 100 n 7 [.d (N sz)] h = .ok (.d (.list ((ins sz).map N))) h := by
  rw [call_d (fe := f7) hn rfl rfl rfl]
  simp_arith [f7, f7_b, f7_0, f7_1, f7_2, N]
  rw [wd_map]
  generalize hq : forL _ _ _ _ = o
  obtain ⟨e', h', rfl, x, rfl, rfl⟩ := for_end hq sz (fun k : Nat => Itm.one (.d (.int k))) (fun pre e h => ∃ x, e = [some (.d (N sz)), some (.d (.list ((ins pre).map N))), x, none, none] ∧ h = []) rfl ⟨none, rfl, rfl⟩ (by
    rintro p s r e h hp ⟨x, rfl, rfl⟩
    refine ⟨_, _, .inl ?_, some (.d (.int s)), rfl, rfl⟩
    simp_arith [forT]
    rw [lc2_map (ins p) (fun row => Itm.one (.d (N row))) (fun row => (List.range s).map fun one => N (row ++ [one])) (by simp_arith []; rw [wd_map])
      (by
        have z := ins_row hs hp
        rw [flat_N, List.length_map, ← ins_snoc]
        exact lim_of (by omega))
      (fun row hr => by
        have hl := ins_len row hr
        have h3 := hs.three
        have hs3 := hs.le s (by rw [← hp]; exact List.mem_append_right _ List.mem_cons_self)
        have hpl : p.length ≤ 3 := by rw [← hp, List.length_append] at h3; omega
        simp_arith [lcT2, rng_n (show s ≤ lim from lim_of (by omega))]
        rw [lcS_map (List.range s) (fun i : Nat => Itm.one (.d (.int i))) (fun one => N (row ++ [one])) (fun one ho => by
          simp_arith [lcT, N]
          rw [bin_addt (by rw [ll]; simp only [List.length_map, List.length_cons, List.length_nil]; omega), bd_ok, pz_nx_ok, N_snoc]
          rfl)]
        rfl)]
    simp_arith []
    rw [flat_N, ← ins_snoc])
  simp_arith []
/-- an out -/
def O : Option Nat → D
  | none => .none
  | some k => .int k
def Ro (r : List (Option Nat)) : D := .tuple (r.map O)
def J (sz : List Nat) (rows : List (List (Option Nat))) : D := .tuple [N sz, .tuple (rows.map Ro)]
structure Jt (sz : List Nat) (rows : List (List (Option Nat))) : Prop where
  len : rows.length = (ins sz).length
  row : ∀ r ∈ rows, r.length = sz.length
  out : ∀ r ∈ rows, ∀ k, some k ∈ r → k ≤ 9
theorem e_is_out (hn : 4 ≤ n) (o : Option Nat) (ho : ∀ k, o = some k → k ≤ 9) : callN T 100 n 8 [.d (O o)] h = .ok (.d (.bool true)) h := by
  rw [call_d (fe := f8) (by omega) rfl rfl rfl]
  cases o with
  | none => simp_arith [f8, f8_b, f8_0, O]
  | some k =>
    have := ho k rfl
    have z : ((k : Int) ≤ (9 : Int)) = True := eq_true (by omega)
    have z0 : ((0 : Int) ≤ (k : Int)) = True := eq_true (by omega)
    simp_arith [f8, f8_b, f8_0, O, cn9, e_within, z, z0, decide_true, Bool.and_self]
theorem e_is_joint (hn : 6 ≤ n) (sz : List Nat) (hs : Sz sz) (rows : List (List (Option Nat))) (hj : Jt sz rows) : callN T 100 n 9 [.d (J sz rows)] h = .ok (.d (.bool true)) h := by
  rw [call_d (fe := f9) (by omega) rfl rfl rfl]
  simp_arith [f9, f9_b, f9_0, f9_1, f9_2, f9_3, f9_4, J, e_sizes, cn6, e_inputs, List.length_map, hj.len, beq_self_eq_true]
  rw [wd_map]
  generalize hq : forL _ _ _ _ = o
  obtain ⟨e', h', rfl, x, rfl, rfl⟩ := for_end hq rows (fun r => Itm.one (.d (Ro r))) (fun pre e h => ∃ x, e = [some (.d (J sz rows)), some (.d (N sz)), some (.d (.tuple (rows.map Ro))), x, none] ∧ h = []) rfl ⟨none, rfl, rfl⟩ (by
    rintro p r q e h hp ⟨x, rfl, rfl⟩
    refine ⟨_, _, .inl ?_, some (.d (Ro r)), rfl, rfl⟩
    have hm : r ∈ rows := by rw [← hp]; exact List.mem_append_right _ List.mem_cons_self
    simp_arith [forT, Ro, N, List.length_map, hj.row r hm, beq_self_eq_true]
    rw [lc_map r (fun o => Itm.one (.d (O o))) (fun _ => .bool true) (by simp_arith []; rw [wd_map]) (lim_of (by have := hj.row r hm; have := hs.three; omega)) (fun o ho => by
      simp_arith [lcT, e_is_out (show 4 ≤ n - 1 by omega) o (fun k e => hj.out r hm k (by rw [← e]; exact ho))])]
    rw [map_bool]
    simp_arith []
    rw [all_true _ _ (fun _ _ => rfl)]
    simp_arith [])
  simp_arith []
end
/-! lots, inputs, answers -/
section
variable {n : Nat} {h : Hs}
structure Lot (lot : List Nat) (c : Nat) : Prop where
  lt : ∀ x ∈ lot, x < c
  asc : ∀ k, k + 1 < lot.length → lot[k]! < lot[k + 1]!
theorem N_at {lot : List Nat} {k : Nat} (l : k < lot.length) : (lot.map fun k : Nat => PyData.int k)[k]? = some (.int (lot[k]! : Nat)) := by
  rw [List.getElem?_map, List.getElem?_eq_getElem l, getElem!_pos lot k l]
  rfl
theorem e_lot (hn : 4 ≤ n) (lot : List Nat) (c : Nat) (hl : Lot lot c) (hb : lot.length ≤ 1000) : callN T 100 n 10 [.d (N lot), .d (.int c)] h = .ok (.d (.bool true)) h := by
  rw [call_d (fe := f10) (by omega) rfl rfl rfl]
  simp_arith [f10, f10_b, f10_0, f10_1, N]
  rw [lc_map lot (fun k : Nat => .one (.d (.int k))) (fun k => .bool (decide ((0 : Int) ≤ k) && decide ((k : Int) ≤ (c : Int) - 1))) (lc_nat _ _ _ lot rfl) (lim_of (by omega)) (fun a ha => by simp_arith [lcT, e_within])]
  rw [map_bool]
  simp_arith []
  rw [all_true _ _ (fun x hx => by
    have := hl.lt x hx
    rw [Bool.and_eq_true, decide_eq_true_eq, decide_eq_true_eq]
    omega)]
  simp_arith []
  rw [lc_map (List.range (lot.length - 1)) (fun i : Nat => Itm.one (.d (.int i))) (fun k => .bool (decide ((lot[k]! : Int) < (lot[k + 1]! : Nat))))
    (by
      simp_arith [List.length_map]
      exact rng_i _ (lim_of (by omega)) (by omega) (by rw [ll]; omega))
    (by rw [List.length_range]; exact lim_of (by omega))
    (fun k hk => by
      have := List.mem_range.mp hk
      have e1 := N_at (lot := lot) (k := k) (by omega)
      have e2 := N_at (lot := lot) (k := k + 1) (by omega)
      simp_arith [lcT, sub_ti k e1 rfl, sub_ti (k + 1) e2 (show ((k : Int) + 1) = ((k + 1 : Nat) : Int) by omega)])]
  rw [map_bool]
  simp_arith []
  rw [all_true _ _ (fun k hk => by
    have := List.mem_range.mp hk
    have := hl.asc k (by omega)
    rw [decide_eq_true_eq]
    omega)]
theorem all_1 {m : Bool} (b : Bool) : bifW .all m [.d (.list [.bool b])] h = .ok (.d (.bool b)) h := by
  have z := all_l (m := m) (h := h) [b]
  rw [List.all_cons, List.all_nil, Bool.and_true] at z
  exact z
theorem e_lot9 (hn : 4 ≤ n) (c : Nat) (hc : c ≤ 9) : callN T 100 n 10 [.d (N [9]), .d (.int c)] h = .ok (.d (.bool false)) h := by
  rw [call_d (fe := f10) (by omega) rfl rfl rfl]
  simp_arith [f10, f10_b, f10_0, f10_1, N]
  rw [lc_map [9] (fun k : Nat => .one (.d (.int k))) (fun k => .bool (decide ((0 : Int) ≤ k) && decide ((k : Int) ≤ (c : Int) - 1))) (lc_nat _ _ _ [9] rfl) (lim_of (by decide)) (fun a ha => by simp_arith [lcT, e_within])]
  have z : decide ((9 : Int) ≤ (c : Int) - 1) = false := decide_eq_false (by omega)
  simp_arith [z, all_1]
theorem e_clot (hn : 5 ≤ n) (lot : List Nat) (c : Nat) (hl : Lot lot c) (hb : lot.length ≤ 1000) : callN T 100 n 11 [.d (N lot), .d (.int c)] h = .ok (.d .none) h := by
  rw [call_d (fe := f11) (by omega) rfl rfl rfl]
  simp_arith [f11, f11_b, f11_0, e_lot]
theorem e_clot9 (hn : 5 ≤ n) (c : Nat) (hc : c ≤ 9) : callN T 100 n 11 [.d (N [9]), .d (.int c)] h = .ex ⟨"InvalidLot", none⟩ h := by
  rw [call_d (fe := f11) (by omega) rfl rfl rfl]
  simp_arith [f11, f11_b, f11_0, e_lot9]
theorem N_zip (a b : List Nat) : List.zipWith Itm.two ((a.map fun k : Nat => PyData.int k).map W.d) ((b.map fun k : Nat => PyData.int k).map W.d) = (a.zip b).map fun p => .two (.d (.int (p.1 : Nat))) (.d (.int (p.2 : Nat))) := zip_wd _ _ a b
theorem zip_le (a b : List Nat) : (a.zip b).length ≤ b.length := by rw [List.length_zip]; omega
theorem e_are_inputs (hn : 4 ≤ n) (sz inp : List Nat) (hs : Sz sz) (hi : inp ∈ ins sz) : callN T 100 n 12 [.d (N inp), .d (N sz)] h = .ok (.d (.bool true)) h := by
  rw [call_d (fe := f12) (by omega) rfl rfl rfl]
  simp_arith [f12, f12_b, f12_0, f12_1, N, List.length_map, ins_len inp hi]
  rw [lc_map (inp.zip sz) (fun p => .two (.d (.int (p.1 : Nat))) (.d (.int (p.2 : Nat)))) (fun p => .bool (decide ((0 : Int) ≤ (p.1 : Nat)) && decide (((p.1 : Nat) : Int) ≤ (p.2 : Nat) - 1))) (by simp_arith [zipW_t]; rw [N_zip]) (lim_of (by have := zip_le inp sz; have := hs.three; omega)) (fun p hp => by simp_arith [lcT, e_within])]
  rw [map_bool]
  simp_arith []
  rw [all_true _ _ (fun p hp => by
    have := ins_lt inp hi p hp
    rw [Bool.and_eq_true, decide_eq_true_eq, decide_eq_true_eq]
    omega)]
theorem e_are_inputs9 (hn : 4 ≤ n) (sz : List Nat) (hs : Sz sz) : callN T 100 n 12 [.d (N (List.replicate sz.length 9)), .d (N sz)] h = .ok (.d (.bool false)) h := by
  rw [call_d (fe := f12) (by omega) rfl rfl rfl]
  simp_arith [f12, f12_b, f12_0, f12_1, N, List.length_map, List.length_replicate]
  rw [lc_map ((List.replicate sz.length 9).zip sz) (fun p => .two (.d (.int (p.1 : Nat))) (.d (.int (p.2 : Nat)))) (fun p => .bool (decide ((0 : Int) ≤ (p.1 : Nat)) && decide (((p.1 : Nat) : Int) ≤ (p.2 : Nat) - 1))) (by simp_arith [zipW_t]; rw [N_zip]) (lim_of (by have := zip_le (List.replicate sz.length 9) sz; have := hs.three; omega)) (fun p hp => by simp_arith [lcT, e_within])]
  rw [map_bool]
  simp_arith []
  have z : (((List.replicate sz.length 9).zip sz).map fun p => decide ((0 : Int) ≤ (p.1 : Nat)) && decide (((p.1 : Nat) : Int) ≤ (p.2 : Nat) - 1)).all id = false := by
    cases sz with
    | nil => have := hs.two; simp at this
    | cons s r =>
      have := hs.le s List.mem_cons_self
      have z : decide (((9 : Nat) : Int) ≤ (s : Int) - 1) = false := decide_eq_false (by omega)
      simp only [List.length_cons, List.replicate_succ, List.zip_cons_cons, List.map_cons, List.all_cons, z, Bool.and_false, id, Bool.false_and]
  rw [z]
theorem e_cinp (hn : 5 ≤ n) (sz inp : List Nat) (hs : Sz sz) (hi : inp ∈ ins sz) : callN T 100 n 13 [.d (N inp), .d (N sz)] h = .ok (.d .none) h := by
  rw [call_d (fe := f13) (by omega) rfl rfl rfl]
  simp_arith [f13, f13_b, f13_0, e_are_inputs]
theorem e_cinp9 (hn : 5 ≤ n) (sz : List Nat) (hs : Sz sz) : callN T 100 n 13 [.d (N (List.replicate sz.length 9)), .d (N sz)] h = .ex ⟨"InvalidInputs", none⟩ h := by
  rw [call_d (fe := f13) (by omega) rfl rfl rfl]
  simp_arith [f13, f13_b, f13_0, e_are_inputs9]
theorem mulB_r {i : Int} {s : Nat} (hs : s ≤ 3) : mulB i (s : Int) = true := by
  have : Builtin.Int.intBits (s : Int) ≤ 64 := by
    match s, hs with
    | 0, _ => decide
    | 1, _ => decide
    | 2, _ => decide
    | 3, _ => decide
  unfold mulB
  rw [decide_eq_true this]
  simp
theorem e_place (hn : 2 ≤ n) (sz inp : List Nat) (hs : ∀ s ∈ sz, s ≤ 3) : callN T 100 n 14 [.d (N sz), .d (N inp)] h = .ok (.d (.int (place sz inp : Nat))) h := by
  rw [call_d (fe := f14) (by omega) rfl rfl rfl]
  simp_arith [f14, f14_b, f14_0, f14_1, f14_2, N, zipW_t]
  rw [N_zip]
  generalize hq : forL _ _ _ _ = o
  obtain ⟨e', h', rfl, x, y, rfl, rfl⟩ := for_end hq (inp.zip sz) (fun p => .two (.d (.int (p.1 : Nat))) (.d (.int (p.2 : Nat)))) (fun pre e h => ∃ x y, e = [some (.d (N sz)), some (.d (N inp)), some (.d (.int ((pre.foldl (fun p q => p * q.2 + q.1) 0 : Nat) : Int))), x, y] ∧ h = []) rfl ⟨none, none, rfl, rfl⟩ (by
    rintro p q r e h hp ⟨x, y, rfl, rfl⟩
    refine ⟨_, _, .inl ?_, some (.d (.int q.1)), some (.d (.int q.2)), rfl, rfl⟩
    have hm : q ∈ inp.zip sz := by rw [← hp]; exact List.mem_append_right _ List.mem_cons_self
    have h2 : q.2 ≤ 3 := hs _ (List.of_mem_zip hm).2
    simp_arith [forT, bin_mul (mulB_r h2)]
    rw [List.foldl_append]
    simp only [List.foldl_cons, List.foldl_nil, Int.natCast_add, Int.natCast_mul])
  simp_arith []
  rfl
def rowAt (sz : List Nat) (rows : List (List (Option Nat))) (inp : List Nat) : List (Option Nat) := rows.getD (place sz inp) []
theorem row_at {sz : List Nat} {rows : List (List (Option Nat))} {inp : List Nat} (hj : Jt sz rows) (hi : inp ∈ ins sz) : (rows.map Ro)[place sz inp]? = some (Ro (rowAt sz rows inp)) ∧ rowAt sz rows inp ∈ rows := by
  have hl := place_lt hi
  rw [← hj.len] at hl
  unfold rowAt
  rw [List.getElem?_map, List.getElem?_eq_getElem hl, List.getD_eq_getElem?_getD, List.getElem?_eq_getElem hl]
  exact ⟨rfl, List.getElem_mem hl⟩
theorem e_outs (hn : 3 ≤ n) (sz : List Nat) (hs : Sz sz) (rows : List (List (Option Nat))) (hj : Jt sz rows) (inp : List Nat) (hi : inp ∈ ins sz) : callN T 100 n 15 [.d (J sz rows), .d (N inp)] h = .ok (.d (Ro (rowAt sz rows inp))) h := by
  rw [call_d (fe := f15) (by omega) rfl rfl rfl]
  simp_arith [f15, f15_b, f15_0, J, e_place _ _ _ hs.le, sub_tup (row_at hj hi).1]
/-- the members of a row at a lot -/
def pk (xs : List D) (lot : List Nat) : List D := lot.map fun k => xs.getD k .none
theorem e_part (hn : 2 ≤ n) (xs : List D) (lot : List Nat) (hl : ∀ k ∈ lot, k < xs.length) (hb : lot.length ≤ 1000) : callN T 100 n 16 [.d (.tuple xs), .d (N lot)] h = .ok (.d (.tuple (pk xs lot))) h := by
  rw [call_d (fe := f16) (by omega) rfl rfl rfl]
  simp_arith [f16, f16_b, f16_0, N]
  rw [lc_map lot (fun k : Nat => .one (.d (.int k))) (fun k => xs.getD k .none) (lc_nat _ _ _ lot rfl) (lim_of (by omega)) (fun k hk => by
    have e : xs[k]? = some (xs.getD k .none) := by rw [List.getElem?_eq_getElem (hl k hk), List.getD_eq_getElem?_getD, List.getElem?_eq_getElem (hl k hk)]; rfl
    simp_arith [lcT, sub_tup e])]
  simp_arith []
  rw [tup_l (by rw [List.length_map]; exact lim_of (by omega))]
  simp_arith []
  rfl
/-- an ideal answer -/
def ansD (sz : List Nat) (rows : List (List (Option Nat))) (lot inp : List Nat) : D := .tuple [.tuple (pk (inp.map fun k : Nat => .int k) lot), .tuple (pk ((rowAt sz rows inp).map O) lot)]
theorem e_ans (hn : 4 ≤ n) (sz : List Nat) (hs : Sz sz) (rows : List (List (Option Nat))) (hj : Jt sz rows) (inp : List Nat) (hi : inp ∈ ins sz) (lot : List Nat) (hl : Lot lot sz.length) (hb : lot.length ≤ 1000) : callN T 100 n 17 [.d (J sz rows), .d (N inp), .d (N lot)] h = .ok (.d (ansD sz rows lot inp)) h := by
  rw [call_d (fe := f17) (by omega) rfl rfl rfl]
  have h1 : ∀ k ∈ lot, k < (inp.map fun k : Nat => PyData.int k).length := fun k hk => by rw [List.length_map, ins_len inp hi]; exact hl.lt k hk
  have h2 : ∀ k ∈ lot, k < ((rowAt sz rows inp).map O).length := fun k hk => by rw [List.length_map, hj.row _ (row_at hj hi).2]; exact hl.lt k hk
  have e1 := fun h => e_part (h := h) (show 2 ≤ n - 1 by omega) _ lot h1 hb
  have e2 := fun h => e_part (h := h) (show 2 ≤ n - 1 by omega) _ lot h2 hb
  have e3 := fun h => e_outs (h := h) (show 3 ≤ n - 1 by omega) sz hs rows hj inp hi
  simp_arith [f17, f17_b, f17_0]
  rw [show N inp = .tuple (inp.map fun k : Nat => .int k) from rfl, e1]
  simp_arith []
  rw [show PyData.tuple (inp.map fun k : Nat => .int k) = N inp from rfl, e3]
  simp_arith []
  rw [show Ro (rowAt sz rows inp) = .tuple ((rowAt sz rows inp).map O) from rfl, e2]
  simp_arith []
  rfl
theorem e_answers (hn : 5 ≤ n) (sz : List Nat) (hs : Sz sz) (rows : List (List (Option Nat))) (hj : Jt sz rows) (lot : List Nat) (hl : Lot lot sz.length) (hb : lot.length ≤ 1000) : callN T 100 n 18 [.d (J sz rows), .d (N lot)] h = .ok (.d (.list ((ins sz).map (ansD sz rows lot)))) h := by
  rw [call_d (fe := f18) (by omega) rfl rfl rfl]
  have e3 := fun h inp hi => e_ans (h := h) (show 4 ≤ n - 1 by omega) sz hs rows hj inp hi lot hl hb
  have e4 := fun h => e_inputs (h := h) (show 2 ≤ n - 1 by omega) sz hs
  simp_arith [f18, f18_b, f18_0]
  rw [lc_map (ins sz) (fun inp => .one (.d (N inp))) (ansD sz rows lot) (by
      rw [show J sz rows = .tuple [N sz, .tuple (rows.map Ro)] from rfl]
      simp_arith [e4]
      rw [wd_map]) (lim_of (by have := hs.len; omega)) (fun inp hi => by simp_arith [lcT, e3 _ inp hi])]
  simp_arith []
end
/-! classes, limits -/
section
variable {n : Nat} {h : Hs}
theorem e_groups (hn : 2 ≤ n) (told : List D) (hk : ∀ t ∈ told, keyT t = true) (hl : told.length ≤ 1000) : callN T 100 n 19 [.d (.list told)] h = .ok (.d (clsD told)) h := by
  rw [call_d (fe := f19) (by omega) rfl rfl rfl]
  simp_arith [f19, f19_b, f19_0, f19_1, f19_2, enuW_l, zipIdx_d]
  generalize hq : forL _ _ _ _ = o
  obtain ⟨e', h', rfl, st, x, y, rfl, R, hst, h1, h2⟩ := for_endP hq told.zipIdx (fun p => .two (.d (.int (p.2 : Nat))) (.d p.1)) (fun pre e h => ∃ st x y, e = [some (.d (.list told)), some (.r 0), x, y, none] ∧ GR st h ∧ strp st = pre.foldl (fun st p => addG st p.1 p.2) [] ∧ st.length ≤ pre.length ∧ ∀ g ∈ st, g.2.2.length ≤ pre.length) rfl
    ⟨[], none, none, rfl, ⟨rfl, (fun _ hg => by cases hg), (fun _ hg => by cases hg), List.nodup_nil⟩, rfl, Nat.le_refl _, (fun _ hg => by cases hg)⟩ (by
    rintro p q r e h hp ⟨st, x, y, rfl, R, hst, h1, h2⟩ P hP
    have hm : q ∈ told.zipIdx := by rw [← hp]; exact List.mem_append_right _ List.mem_cons_self
    have hpl : p.length ≤ 1000 := by
      have := congrArg List.length hp
      rw [List.length_append, List.length_zipIdx, List.length_cons] at this
      omega
    have hkey := hk q.1 (by
      have := List.mem_zipIdx_iff_getElem?.mp hm
      exact List.mem_of_getElem? this)
    simp_arith [forT]
    generalize hx : Res.bd (mthA .setdefault _ _ _) _ = rr
    obtain ⟨st', h', rfl, R', e2, h3, h4⟩ := setdef (key := q.1) (k := q.2) R hkey (by rw [ll]; omega) (fun g hg => by have := h2 g hg; rw [ll]; omega) hx
    simp_arith []
    refine .nx ?_
    rw [hP]
    refine ⟨st', some (.d (.int q.2)), some (.d q.1), rfl, R', ?_, by rw [List.length_append]; simp; omega, fun g hg => by have := h4 _ h2 g hg; rw [List.length_append]; simp; omega⟩
    rw [e2, hst, List.foldl_append]
    rfl)
  simp_arith []
  have hz : told.zipIdx.length ≤ 1000 := by rw [List.length_zipIdx]; exact hl
  rw [lc_map (h1 := h'.set 0 (.dct true (st.map fun g => (g.1, W.r g.2.1)))) st (fun g => .one (.r g.2.1)) (fun g => N g.2.2)
    (by
      simp_arith []
      unfold lockW
      simp only [R.d, List.map_map]
      rfl)
    (lim_of (by omega))
    (fun g hg => by
      have e1 := R.l g hg
      have e2 : (h'.set 0 (.dct true (st.map fun g => (g.1, W.r g.2.1))))[g.2.1]? = some (.lst (g.2.2.map fun k : Nat => W.d (.int k))) := by
        have := R.lo g hg
        rw [List.getElem?_set_ne (by omega)]
        exact e1
      simp_arith [lcT]
      have e3 : bifW .tuple false [.r g.2.1] (h'.set 0 (.dct true (st.map fun g => (g.1, W.r g.2.1)))) = .ok (.d (N g.2.2)) (h'.set 0 (.dct true (st.map fun g => (g.1, W.r g.2.1)))) := by
        unfold bifW sq
        simp only [e2]
        have z := mkt_d (h := h'.set 0 (.dct true (st.map fun g => (g.1, W.r g.2.1)))) (xs := g.2.2.map fun k : Nat => PyData.int k) (lim_of (by rw [List.length_map]; have := h2 g hg; omega))
        rw [List.map_map] at z
        exact z
      rw [e3]
      simp_arith [])]
  simp_arith []
  rw [srt_l (srtB_N _ _) (srtK_N _ _) (lim_of (by rw [List.length_map]; omega))]
  simp_arith []
  rw [tup_l (lim_of (by rw [List.length_mergeSort, List.length_map]; omega))]
  simp_arith []
  unfold clsD srt grp
  rw [← hst]
  unfold strp
  rw [List.map_map]
  rfl
theorem zip_same {α : Type} (f g : α → D) : ∀ (a : List α), List.zipWith Itm.two ((a.map f).map W.d) ((a.map g).map W.d) = a.map fun x => .two (.d (f x)) (.d (g x))
  | [] => rfl
  | x :: xs => by
    show Itm.two _ _ :: List.zipWith Itm.two ((xs.map f).map W.d) ((xs.map g).map W.d) = _
    rw [zip_same f g xs]
    rfl
/-- what a lot is told of an input tuple by joint tables -/
def toldD (sz : List Nat) (js : List (List (List (Option Nat)))) (lot inp : List Nat) : D := .tuple (js.map fun rows => ansD sz rows lot inp)
def cls (sz : List Nat) (js : List (List (List (Option Nat)))) (lot : List Nat) : D := clsD ((ins sz).map (toldD sz js lot))
def Js (sz : List Nat) (js : List (List (List (Option Nat)))) : D := .tuple (js.map (J sz))
theorem kd_O (o : Option Nat) : kd 0 (O o) = true := by
  cases o with
  | none => exact kd_none 0
  | some k => exact kd_int 0 k
theorem kd_pk {m : Nat} (xs : List D) (lot : List Nat) (h : ∀ x ∈ xs, kd m x = true) : ∀ x ∈ pk xs lot, kd m x = true := by
  intro x hx
  obtain ⟨k, _, rfl⟩ := List.mem_map.mp hx
  rw [List.getD_eq_getElem?_getD]
  cases e : xs[k]? with
  | none => exact kd_none m
  | some y => exact h y (List.mem_of_getElem? e)
theorem kd_ans (sz : List Nat) (rows : List (List (Option Nat))) (lot inp : List Nat) : kd 2 (ansD sz rows lot inp) = true := by
  refine kd_tup fun x hx => ?_
  rcases List.mem_cons.mp hx with rfl | hx
  · exact kd_tup (kd_pk _ _ fun x hx => by obtain ⟨k, _, rfl⟩ := List.mem_map.mp hx; exact kd_int 0 k)
  · rw [List.mem_singleton.mp hx]
    exact kd_tup (kd_pk _ _ fun x hx => by obtain ⟨k, _, rfl⟩ := List.mem_map.mp hx; exact kd_O k)
theorem kd_told (sz : List Nat) (js : List (List (List (Option Nat)))) (lot inp : List Nat) : kd 3 (toldD sz js lot inp) = true := kd_tup fun x hx => by
  obtain ⟨r, _, rfl⟩ := List.mem_map.mp hx
  exact kd_ans _ _ _ _
theorem rep_1 (m : Nat) : (List.replicate m [(W.d (.tuple []))]).flatten = (List.replicate m (PyData.tuple [])).map W.d := by
  induction m with
  | zero => rfl
  | succ m ih =>
    rw [List.replicate_succ, List.flatten_cons, ih]
    rfl
theorem bin_rep {m : Nat} (l : m ≤ 1000) : binW .Mult false (.d (.list [.tuple []])) (.d (.int m)) h = .ok (.d (.list (List.replicate m (.tuple [])))) h := by
  show (if 0 ≤ (m : Int) ∧ (m : Int) ≤ 1000 ∧ ([W.d (.tuple [])] : List W).length ≤ 1000 ∧ (false = true → [W.d (.tuple [])] ≠ [] ∧ 2 ≤ (m : Int)) then mkl false (List.replicate (m : Int).toNat [W.d (.tuple [])]).flatten h else .no) = _
  rw [if_pos ⟨by omega, by omega, by decide, fun e => by cases e⟩, show (m : Int).toNat = m by omega, rep_1]
  exact mkl_d (lim_of (by rw [List.length_replicate]; omega))
theorem told_0 (sz : List Nat) (lot : List Nat) : List.replicate (ins sz).length (PyData.tuple []) = (ins sz).map (toldD sz [] lot) := by
  have : toldD sz [] lot = fun _ => PyData.tuple [] := rfl
  rw [this, List.map_const']
structure Jts (sz : List Nat) (js : List (List (List (Option Nat)))) : Prop where
  each : ∀ rows ∈ js, Jt sz rows
  few : js.length ≤ 100
theorem told_snoc (sz : List Nat) (js : List (List (List (Option Nat)))) (rows : List (List (Option Nat))) (lot inp : List Nat) : toldD sz (js ++ [rows]) lot inp = .tuple ((js.map fun rows => ansD sz rows lot inp) ++ [ansD sz rows lot inp]) := by
  unfold toldD
  rw [List.map_append]
  rfl
theorem e_classes_by (hn : 6 ≤ n) (sz : List Nat) (hs : Sz sz) (js : List (List (List (Option Nat)))) (hj : Jts sz js) (lot : List Nat) (hl : Lot lot sz.length) (hb : lot.length ≤ 1000) : callN T 100 n 22 [.d (N sz), .d (Js sz js), .d (N lot)] h = .ok (.d (cls sz js lot)) h := by
  rw [call_d (fe := f22) (by omega) rfl rfl rfl]
  have hc := hs.len
  have e4 := fun h => e_inputs (h := h) (show 2 ≤ n - 1 by omega) sz hs
  simp_arith [f22, f22_b, f22_0, f22_1, f22_2, e4, List.length_map, bin_rep, Js]
  rw [wd_map, told_0 sz lot]
  generalize hq : forL _ _ _ _ = o
  obtain ⟨e', h', rfl, x, rfl, rfl⟩ := for_end hq js (fun rows => .one (.d (J sz rows))) (fun pre e h => ∃ x, e = [some (.d (N sz)), some (.d (Js sz js)), some (.d (N lot)), some (.d (.list ((ins sz).map (toldD sz pre lot)))), x, none, none] ∧ h = []) rfl ⟨none, rfl, rfl⟩ (by
    rintro p rows r e h hp ⟨x, rfl, rfl⟩
    refine ⟨_, _, .inl ?_, some (.d (J sz rows)), rfl, rfl⟩
    have hm : rows ∈ js := by rw [← hp]; exact List.mem_append_right _ List.mem_cons_self
    have hpl : p.length ≤ 100 := by
      have := congrArg List.length hp
      have := hj.few
      rw [List.length_append] at *
      omega
    have e5 := fun h => e_answers (h := h) (show 5 ≤ n - 1 by omega) sz hs rows (hj.each rows hm) lot hl hb
    simp_arith [forT]
    rw [lc_map (ins sz) (fun inp => .two (.d (toldD sz p lot inp)) (.d (ansD sz rows lot inp))) (toldD sz (p ++ [rows]) lot) (by simp_arith [e5, zipW_l]; rw [zip_same]) (lim_of (by omega)) (fun inp hi => by
      simp_arith [lcT]
      rw [toldD, bin_addt (lim_of (by rw [List.length_map]; simp; omega)), told_snoc]
      rfl)]
    simp_arith [])
  have e6 := fun h => e_groups (h := h) (show 2 ≤ n - 1 by omega) ((ins sz).map (toldD sz js lot)) (fun t ht => by
    obtain ⟨inp, _, rfl⟩ := List.mem_map.mp ht
    exact kd_key (n := 3) (kd_told sz js lot inp) (by omega)) (by rw [List.length_map]; omega)
  simp_arith [e6]
  rfl
end
/-! names, limits -/
section
variable {n : Nat} {h : Hs}
def okName (s : Str) : Bool := decide (1 ≤ s.length) && decide (s.length ≤ 8) && s.cps.toList.all fun c => decide (c ∈ ("abcdefghijklmnopqrstuvwxyz" : Str).cps.toList)
theorem cnL : T.cn "LETTERS" = some (.str "abcdefghijklmnopqrstuvwxyz") := by rfl
theorem src_s (s : Str) : srcW (.d (.str s)) h = .ok (.ws (s.cps.toList.map fun c => .one (.d (.str ⟨#[c]⟩)))) h := rfl
theorem in_s (c : Nat) (y : Str) (l : y.length ≤ lim) : cmpB .In (.d (.str ⟨#[c]⟩)) (.d (.str y)) h = some (decide (c ∈ y.cps.toList)) := by
  show (if (⟨#[c]⟩ : Str).length = 1 ∧ y.length ≤ lim then some (decide (c ∈ y.cps.toList)) else none) = _
  rw [if_pos ⟨rfl, l⟩]
theorem e_is_name (hn : 2 ≤ n) (s : Str) (hl : s.length ≤ 1000) : callN T 100 n 1 [.d (.str s)] h = .ok (.d (.bool (okName s))) h := by
  rw [call_d (fe := f1) (by omega) rfl rfl rfl]
  simp_arith [f1, f1_b, f1_0, f1_1, len_s (show s.length ≤ lim from lim_of (by omega))]
  have hcl : s.cps.toList.length ≤ 100000 := by
    have : s.cps.toList.length = s.length := by rw [Array.length_toList]; rfl
    omega
  by_cases c1 : 1 ≤ s.length
  · have d1 : decide ((1 : Int) ≤ (s.length : Int)) = true := decide_eq_true (by omega)
    by_cases c2 : s.length ≤ 8
    · have d2 : decide ((s.length : Int) ≤ 8) = true := decide_eq_true (by omega)
      simp_arith [d1, d2]
      rw [lc_map (h1 := []) s.cps.toList (fun c => .one (.d (.str ⟨#[c]⟩))) (fun c => .bool (decide (c ∈ ("abcdefghijklmnopqrstuvwxyz" : Str).cps.toList))) (by simp_arith [src_s]) (lim_of hcl) (fun c hc => by simp_arith [lcT, cnL, in_s c _ (show ("abcdefghijklmnopqrstuvwxyz" : Str).length ≤ lim from lim_of (by decide))])]
      rw [map_bool]
      simp_arith []
      unfold okName
      rw [decide_eq_true c1, decide_eq_true c2, List.all_map]
      rfl
    · have d2 : decide ((s.length : Int) ≤ 8) = false := decide_eq_false (by omega)
      simp_arith [d1, d2]
      unfold okName
      rw [decide_eq_false c2, Bool.and_false, Bool.false_and]
  · have d1 : decide ((1 : Int) ≤ (s.length : Int)) = false := decide_eq_false (by omega)
    simp_arith [d1]
    unfold okName
    rw [decide_eq_false c1, Bool.false_and, Bool.false_and]
theorem e_is_name_n (hn : 2 ≤ n) : callN T 100 n 1 [.d .none] h = .ok (.d (.bool false)) h := by
  rw [call_d (fe := f1) (by omega) rfl rfl rfl]
  simp_arith [f1, f1_b, f1_0, f1_1]
theorem e_is_name_i (hn : 2 ≤ n) (i : Int) : callN T 100 n 1 [.d (.int i)] h = .ok (.d (.bool false)) h := by
  rw [call_d (fe := f1) (by omega) rfl rfl rfl]
  simp_arith [f1, f1_b, f1_0, f1_1]
/-- a name, or not -/
inductive Nm : D → Bool → Prop
  | s (s : Str) (l : s.length ≤ 1000) : Nm (.str s) (okName s)
  | n : Nm .none false
  | i (i : Int) : Nm (.int i) false
theorem e_name (hn : 2 ≤ n) {x : D} {b : Bool} (hx : Nm x b) : callN T 100 n 1 [.d x] h = .ok (.d (.bool b)) h := by
  cases hx with
  | s s l => exact e_is_name hn s l
  | n => exact e_is_name_n hn
  | i i => exact e_is_name_i hn i
theorem e_cname (hn : 3 ≤ n) {x : D} {b : Bool} (hx : Nm x b) : callN T 100 n 2 [.d x] h = if b = true then .ok (.d .none) h else .ex ⟨"InvalidName", none⟩ h := by
  rw [call_d (fe := f2) (by omega) rfl rfl rfl]
  have e1 := fun h => e_name (h := h) (show 2 ≤ n - 1 by omega) hx
  cases b <;> simp_arith [f2, f2_b, f2_0, e1]
/-- a limit -/
def Lm (l : List Nat × Nat) : D := .tuple [N l.1, .int l.2]
def Lms (ls : List (List Nat × Nat)) : D := .tuple (ls.map Lm)
structure Lim1 (l : List Nat × Nat) (c : Nat) : Prop where
  lot : Lot l.1 c
  few : l.1.length ≤ 1000
theorem e_lim (hn : 5 ≤ n) (l : List Nat × Nat) (c : Nat) (hl : Lim1 l c) : callN T 100 n 20 [.d (Lm l), .d (.int c)] h = .ok (.d (.bool (decide (1 ≤ l.2)))) h := by
  rw [call_d (fe := f20) (by omega) rfl rfl rfl]
  have e1 := fun h => e_lot (h := h) (show 4 ≤ n - 1 by omega) l.1 c hl.lot hl.few
  have e2 : ∀ i h, callN T 100 (n - 1) 0 [.d (.int i)] h = .ok (.d (.bool true)) h := fun i h => by
    rw [call_d (fe := f0) (by omega) rfl rfl rfl]
    simp_arith [f0, f0_b, f0_0]
  simp_arith [f20, f20_b, f20_0, f20_1, Lm, e1, e2]
  congr 3
  exact decide_eq_decide.mpr (by omega)
theorem ltN (a b : List Nat) : cmpB .Lt (.d (N a)) (.d (N b)) h = some (PySem.W.dataLt (N a) (N b)) := by
  show (if ordB (N a) (N b) = true then some (PySem.W.dataLt (N a) (N b)) else none) = _
  rw [if_pos]
  unfold ordB
  rw [alike_N, kd_shp (kd_N a) (by omega), kd_shp (kd_N b) (by omega)]
  rfl
structure Lims (ls : List (List Nat × Nat)) (c : Nat) : Prop where
  each : ∀ l ∈ ls, Lim1 l c ∧ 1 ≤ l.2
  few : ls.length ≤ 1000
  asc : ∀ k, k + 1 < ls.length → PySem.W.dataLt (N ls[k]!.1) (N ls[k + 1]!.1) = true
theorem Lm_at {ls : List (List Nat × Nat)} {k : Nat} (l : k < ls.length) : (ls.map Lm)[k]? = some (Lm ls[k]!) := by
  rw [List.getElem?_map, List.getElem?_eq_getElem l, getElem!_pos ls k l]
  rfl
theorem e_lims0 (hn : 6 ≤ n) (ls : List (List Nat × Nat)) (c : Nat) (hl : ∀ l ∈ ls, Lim1 l c ∧ 1 ≤ l.2) (few : ls.length ≤ 1000) (b : Bool) (hb : ((List.range (ls.length - 1)).map fun k => PySem.W.dataLt (N ls[k]!.1) (N ls[k + 1]!.1)).all id = b) : callN T 100 n 21 [.d (Lms ls), .d (.int c)] h = .ok (.d (.bool b)) h := by
  rw [call_d (fe := f21) (by omega) rfl rfl rfl]
  have e1 := fun h l hm => e_lim (h := h) (show 5 ≤ n - 1 by omega) l c (hl l hm).1
  simp_arith [f21, f21_b, f21_0, f21_1, Lms]
  rw [lc_map ls (fun l => .one (.d (Lm l))) (fun l => .bool (decide (1 ≤ l.2))) (by simp_arith []; rw [wd_map]) (lim_of (by omega)) (fun l hm => by simp_arith [lcT, e1 _ l hm])]
  rw [map_bool]
  simp_arith []
  rw [all_true _ _ (fun l hm => decide_eq_true (hl l hm).2)]
  simp_arith []
  rw [lc_map (List.range (ls.length - 1)) (fun i : Nat => Itm.one (.d (.int i))) (fun k => .bool (PySem.W.dataLt (N ls[k]!.1) (N ls[k + 1]!.1)))
    (by
      simp_arith [List.length_map]
      exact rng_i _ (lim_of (by omega)) (by omega) (by rw [ll]; omega))
    (by rw [List.length_range]; exact lim_of (by omega))
    (fun k hk => by
      have := List.mem_range.mp hk
      have e1 := Lm_at (ls := ls) (k := k) (by omega)
      have e2 := Lm_at (ls := ls) (k := k + 1) (by omega)
      simp_arith [lcT, sub_ti k e1 rfl, sub_ti (k + 1) e2 (show ((k : Int) + 1) = ((k + 1 : Nat) : Int) by omega), Lm, ltN])]
  rw [map_bool]
  simp_arith []
  rw [hb]
theorem e_lims (hn : 6 ≤ n) (ls : List (List Nat × Nat)) (c : Nat) (hl : Lims ls c) : callN T 100 n 21 [.d (Lms ls), .d (.int c)] h = .ok (.d (.bool true)) h :=
  e_lims0 hn ls c hl.each hl.few true (all_true _ _ fun k hk => hl.asc k (by have := List.mem_range.mp hk; omega))
theorem e_lims_a (hn : 6 ≤ n) (c : Nat) (hc : 1 ≤ c) : callN T 100 n 21 [.d (Lms [([0], 0)]), .d (.int c)] h = .ok (.d (.bool false)) h := by
  rw [call_d (fe := f21) (by omega) rfl rfl rfl]
  have L1 : Lim1 ([0], 0) c := ⟨⟨fun x hx => by have := List.mem_singleton.mp hx; omega, fun k hk => by simp at hk⟩, by decide⟩
  have e1 := fun h => e_lim (h := h) (show 5 ≤ n - 1 by omega) ([0], 0) c L1
  simp_arith [f21, f21_b, f21_0, f21_1, Lms]
  rw [lc_map (h1 := []) [([0], 0)] (fun l => .one (.d (Lm l))) (fun l => .bool (decide (1 ≤ l.2))) (by simp_arith []) (lim_of (by decide)) (fun l hm => by rw [List.mem_singleton.mp hm]; simp_arith [lcT, e1])]
  simp_arith [show decide (1 ≤ 0) = false from rfl, all_1]
theorem e_lims_b (hn : 6 ≤ n) (c : Nat) (hc : 2 ≤ c) : callN T 100 n 21 [.d (Lms [([1], 2), ([0], 2)]), .d (.int c)] h = .ok (.d (.bool false)) h := by
  refine e_lims0 hn _ c (fun l hl => ?_) (by decide) false (by decide)
  rcases List.mem_cons.mp hl with rfl | hl
  · exact ⟨⟨⟨fun x hx => by have := List.mem_singleton.mp hx; omega, fun k hk => by simp at hk⟩, by decide⟩, by decide⟩
  · rw [List.mem_singleton.mp hl]
    exact ⟨⟨⟨fun x hx => by have := List.mem_singleton.mp hx; omega, fun k hk => by simp at hk⟩, by decide⟩, by decide⟩
end
/-! the law's own defs on data -/
section
variable {n : Nat} {h : Hs}
theorem flat_snoc {α β : Type} (f : α → List β) (p : List α) (a : α) : (p ++ [a]).flatMap f = p.flatMap f ++ f a := by
  rw [List.flatMap_append, List.flatMap_cons, List.flatMap_nil, List.append_nil]
theorem e_linputs (hn : 2 ≤ n) (sz : List Nat) (hs : Sz sz) : callN T 100 n 42 [.d (N sz)] h = .ok (.d (.list ((ins sz).map N))) h := by
  rw [call_d (fe := f42) hn rfl rfl rfl]
  simp_arith [f42, f42_b, f42_0, f42_1, f42_2, N]
  rw [wd_map]
  generalize hq : forL _ _ _ _ = o
  obtain ⟨e', h', rfl, x, y, z, rfl, rfl⟩ := for_endP hq sz (fun k : Nat => Itm.one (.d (.int k))) (fun pre e h => ∃ x y z, e = [some (.d (N sz)), some (.d (.list ((ins pre).map N))), x, y, z, none] ∧ h = []) rfl ⟨none, none, none, rfl, rfl⟩ (by
    rintro p s r e h hp ⟨x, y, z, rfl, rfl⟩ P hP
    have hrow := ins_row hs hp
    rw [ins_snoc] at hrow
    have hs3 := hs.le s (by rw [← hp]; exact List.mem_append_right _ List.mem_cons_self)
    have hpl : p.length ≤ 3 := by have h3 := hs.three; rw [← hp, List.length_append] at h3; omega
    simp_arith [forT]
    rw [wd_map]
    generalize hq : forL _ _ _ _ = o
    obtain ⟨e', h', rfl, z, rfl, rfl⟩ := for_endP hq (ins p) (fun row => Itm.one (.d (N row))) (fun pre e h => ∃ z, e = [some (.d (N sz)), some (.d (.list ((ins p).map N))), some (.d (.int s)), some (.d (.list ((pre.flatMap fun row => (List.range s).map fun one => row ++ [one]).map N))), z, none] ∧ h = []) rfl ⟨z, rfl, rfl⟩ (by
      rintro q row r' e h hq' ⟨z, rfl, rfl⟩ P' hP'
      have hr : row ∈ ins p := by rw [← hq']; exact List.mem_append_right _ List.mem_cons_self
      have hl := ins_len row hr
      have hb : (q.flatMap fun row => (List.range s).map fun one => row ++ [one]).length ≤ 27 := by
        refine Nat.le_trans ?_ hrow
        rw [← hq', List.flatMap_append, List.length_append]
        omega
      simp_arith [forT]
      rw [lc_map (h1 := []) (List.range s) (fun i : Nat => Itm.one (.d (.int i))) (fun one => N (row ++ [one])) (by simp_arith [rng_n (show s ≤ lim from lim_of (by omega))]) (lim_of (by rw [List.length_range]; omega)) (fun one ho => by
        simp_arith [lcT, N]
        rw [bin_addt (by rw [ll]; simp only [List.length_map, List.length_cons, List.length_nil]; omega), bd_ok, pz_nx_ok, N_snoc]
        rfl)]
      simp_arith []
      rw [bin_addl (lim_of (by rw [List.length_map, List.length_map, List.length_range]; omega))]
      simp_arith []
      refine .nx ?_
      rw [hP']
      refine ⟨some (.d (N row)), ?_, rfl⟩
      rw [flat_snoc, List.map_append, List.map_map]
      rfl)
    simp_arith []
    refine .nx ?_
    rw [hP]
    exact ⟨_, _, _, by rw [ins_snoc], rfl⟩)
  simp_arith []
theorem fnd_at {sz : List Nat} {inp : List Nat} (hi : inp ∈ ins sz) : fndX ((ins sz).map N) (N inp) = some (place sz inp) := by
  unfold fndX
  have hl := place_lt hi
  rw [List.findIdx?_eq_some_iff_findIdx_eq]
  rw [List.length_map]
  refine ⟨hl, ?_⟩
  rw [List.findIdx_eq (by rw [List.length_map]; exact hl)]
  have key : ∀ j (hj : j < ((ins sz).map N).length), PyData.eqv ((ins sz).map N)[j] (N inp) = true ↔ j = place sz inp := by
    intro j hj
    have hj' : j < (ins sz).length := by rw [List.length_map] at hj; exact hj
    rw [List.getElem_map, kd_eqv (kd_N _) (kd_N _)]
    constructor
    · intro z
      have z2 : (ins sz)[j] = inp := by
        have := PyData.tuple.inj z
        exact (List.map_inj_right (f := fun k : Nat => PyData.int k) (fun a b hab => by injection hab with hab; exact Int.ofNat.inj hab)).mp this
      have := place_at (sz := sz) (k := j) (inp := inp) (by rw [List.getElem?_eq_getElem hj', z2])
      exact this.symm
    · intro z
      have := at_place hi
      rw [← z, List.getElem?_eq_getElem hj'] at this
      rw [Option.some.inj this]
  refine ⟨?_, fun j hj => ?_⟩
  · exact (key (place sz inp) (by rw [List.length_map]; exact hl)).mpr rfl
  · cases z : PyData.eqv (((ins sz).map N)[j]'(by rw [List.length_map]; exact Nat.lt_trans hj hl)) (N inp) with
    | true => have := (key j _).mp z; omega
    | false => rfl
theorem lc_pk {C : Ct} {e : Rf.Env} {elt : E} {tg : Tg} {own : List (Str × Nat)} {sc : Scope} {p p1 : Pos} {x : Str} (xs : List D) (lot : List Nat) (i : Nat) (hl : ∀ k ∈ lot, k < xs.length) (hb : lot.length ≤ 1000) (hx : e[i]? = some (some (.d (N lot))))
    (H : ∀ k ∈ lot, ∀ x, xs[k]? = some x → lcT C tg .none elt (wipeE e (own.map (·.2))) (.one (.d (.int (k : Nat)))) h = .ok [.d x] h) : evE C (.lc false elt tg (.exp (.var i x p1)) .none own sc p) e h = .ok (.d (.list (pk xs lot))) h := by
  refine lc_map lot (fun k : Nat => .one (.d (.int k))) (fun k => xs.getD k .none) (lc_nat _ _ _ lot hx) (lim_of (by omega)) (fun k hk => ?_)
  have e : xs[k]? = some (xs.getD k .none) := by rw [List.getElem?_eq_getElem (hl k hk), List.getD_eq_getElem?_getD, List.getElem?_eq_getElem (hl k hk)]; rfl
  exact H k hk _ e
theorem e_lans (hn : 4 ≤ n) (sz : List Nat) (hs : Sz sz) (rows : List (List (Option Nat))) (hj : Jt sz rows) (inp : List Nat) (hi : inp ∈ ins sz) (lot : List Nat) (hl : Lot lot sz.length) (hb : lot.length ≤ 1000) : callN T 100 n 43 [.d (J sz rows), .d (N inp), .d (N lot)] h = .ok (.d (ansD sz rows lot inp)) h := by
  rw [call_d (fe := f43) (by omega) rfl rfl rfl]
  have h1 : ∀ k ∈ lot, k < (inp.map fun k : Nat => PyData.int k).length := fun k hk => by rw [List.length_map, ins_len inp hi]; exact hl.lt k hk
  have h2 : ∀ k ∈ lot, k < ((rowAt sz rows inp).map O).length := fun k hk => by rw [List.length_map, hj.row _ (row_at hj hi).2]; exact hl.lt k hk
  have e4 := fun h => e_linputs (h := h) (show 2 ≤ n - 1 by omega) sz hs
  simp_arith [f43, f43_b, f43_0, f43_1, e4, J]
  rw [mth_index (xs := (ins sz).map N) (x := N inp) (j := place sz inp) (shp_lst (n := 1) (fun x hx => by obtain ⟨a, _, rfl⟩ := List.mem_map.mp hx; exact kd_N a) (by omega)) (kd_shp (kd_N inp) (by omega)) (fnd_at hi)]
  simp_arith [sub_tup (row_at hj hi).1]
  rw [lc_pk (inp.map fun k : Nat => .int k) lot 2 h1 hb rfl (fun k hk x e => by simp_arith [lcT, N, sub_tup e])]
  simp_arith []
  rw [tup_l (lim_of (by unfold pk; rw [List.length_map]; omega))]
  simp_arith []
  rw [lc_pk ((rowAt sz rows inp).map O) lot 2 h2 hb rfl (fun k hk x e => by simp_arith [lcT, Ro, sub_tup e])]
  simp_arith []
  rw [tup_l (lim_of (by unfold pk; rw [List.length_map]; omega))]
  simp_arith []
  rfl
end
/-! the law's classes -/
section
variable {n : Nat} {h : Hs}
theorem zip_range {α : Type} (l : List α) : l.zipIdx = (List.range l.length).zipWith (fun i a => (a, i)) l := by
  rw [List.zipIdx_eq_zip_range']
  rw [← List.range_eq_range', List.zip, List.zipWith_comm]
theorem get_t0 {kvs : List (D × W)} {t : Hs} {key v : D} (hk : keyT key = true) : mthA .get2 (.r 0) (.dct false kvs :: t) (.ok [.d key, .d v] (.dct false kvs :: t)) = .ok ((look kvs key).getD (.d v)) (.dct false kvs :: t) := by
  unfold mthA
  rw [if_pos (show mtB .get2 (kindW (.r 0) (.dct false kvs :: t)) = true from rfl), bd_ok, if_pos rfl]
  show (if keyT key = true then Res.ok ((look kvs key).getD (.d v)) (.dct false kvs :: t) else .no) = _
  rw [if_pos hk]
theorem set_t0 {kvs : List (D × W)} {t : Hs} {key : D} {v : W} (hk : keyT key = true) (l : kvs.length < lim) : setIx (.r 0) (.d key) v (.dct false kvs :: t) = some (.dct false (put kvs key v) :: t) := by
  show (if keyT key = true ∧ kvs.length < lim then some (.dct false (put kvs key v) :: t) else none) = _
  rw [if_pos ⟨hk, l⟩]
theorem key_told (sz : List Nat) (js : List (List (List (Option Nat)))) (lot inp : List Nat) : keyT (toldD sz js lot inp) = true := kd_key (n := 3) (kd_told sz js lot inp) (by omega)
def Jl (sz : List Nat) (js : List (List (List (Option Nat)))) : D := .list (js.map (J sz))
theorem pre_range {p r : List Nat} {k m : Nat} (e : p ++ k :: r = List.range m) : k < m ∧ p = List.range k ∧ p.length = k := by
  have hk : k ∈ List.range m := by rw [← e]; exact List.mem_append_right _ List.mem_cons_self
  have l1 : (List.range m)[p.length]? = some k := by rw [← e, List.getElem?_append_right (Nat.le_refl _), Nat.sub_self]; rfl
  have lt : p.length < m := by
    have := (List.getElem?_eq_some_iff.mp l1).1
    rw [List.length_range] at this
    exact this
  rw [List.getElem?_range lt] at l1
  have ek : p.length = k := Option.some.inj l1
  refine ⟨List.mem_range.mp hk, ?_, ek⟩
  have z := congrArg (List.take p.length) e
  rw [List.take_left, List.take_range, ek, Nat.min_eq_left (by omega)] at z
  exact z
theorem take_zipIdx {α : Type} (l : List α) (k : Nat) (a : α) (e : l[k]? = some a) : l.zipIdx.take (k + 1) = l.zipIdx.take k ++ [(a, k)] := by
  rw [List.take_add_one, List.getElem?_zipIdx, e]
  simp
theorem e_lclasses (hn : 6 ≤ n) (sz : List Nat) (hs : Sz sz) (js : List (List (List (Option Nat)))) (hj : Jts sz js) (lot : List Nat) (hl : Lot lot sz.length) (hb : lot.length ≤ 1000) : callN T 100 n 45 [.d (N sz), .d (Jl sz js), .d (N lot)] h = .ok (.d (cls sz js lot)) h := by
  rw [call_d (fe := f45) (by omega) rfl rfl rfl]
  have hc := hs.len
  have e4 := fun h => e_linputs (h := h) (show 2 ≤ n - 1 by omega) sz hs
  simp_arith [f45, f45_b, f45_0, f45_1, f45_2, f45_3, e4, List.length_map]
  rw [rng_n (lim_of (by omega))]
  simp_arith []
  generalize hq : forL _ _ _ _ = o
  obtain ⟨e', h', rfl, st, x, y, rfl, rfl, hst, hgl⟩ := for_endP hq (List.range (ins sz).length) (fun i : Nat => Itm.one (.d (.int i))) (fun pre e h => ∃ st x y, e = [some (.d (N sz)), some (.d (Jl sz js)), some (.d (N lot)), some (.r 0), some (.d (.list ((ins sz).map N))), x, y, none] ∧ h = [.dct false (st.map fun g => (g.1, W.d (N g.2)))] ∧ st = (((ins sz).map (toldD sz js lot)).zipIdx.take pre.length).foldl (fun st p => addG st p.1 p.2) [] ∧ st.length ≤ pre.length ∧ ∀ g ∈ st, g.2.length ≤ pre.length) rfl
    ⟨[], none, none, rfl, rfl, rfl, Nat.le_refl _, (fun _ hg => by cases hg)⟩ (by
    rintro p k r e h hp ⟨st, x, y, rfl, rfl, hst, hgl, hgp⟩ P hP
    obtain ⟨hk, _, hpk⟩ := pre_range hp
    have ei : (ins sz)[k]? = some (ins sz)[k] := List.getElem?_eq_getElem hk
    have hi : (ins sz)[k] ∈ ins sz := List.getElem_mem hk
    have e5 := fun h rows hr => e_lans (h := h) (show 4 ≤ n - 1 by omega) sz hs rows (hj.each rows hr) _ hi lot hl hb
    have ein : ((ins sz).map N)[k]? = some (N (ins sz)[k]) := by rw [List.getElem?_map, ei]; rfl
    simp_arith [forT]
    rw [lc_map (h1 := [.dct false (st.map fun g => (g.1, W.d (N g.2)))]) js (fun rows => .one (.d (J sz rows))) (fun rows => ansD sz rows lot (ins sz)[k]) (by simp_arith [Jl]; rw [wd_map]) (lim_of (by have := hj.few; omega)) (fun rows hr => by simp_arith [lcT, sub_lst ein, e5 _ rows hr])]
    simp_arith []
    rw [tup_l (lim_of (by rw [List.length_map]; have := hj.few; omega))]
    rw [show PyData.tuple (js.map fun rows => ansD sz rows lot (ins sz)[k]) = toldD sz js lot (ins sz)[k] from rfl]
    simp_arith []
    have ht : ((ins sz).map (toldD sz js lot))[k]? = some (toldD sz js lot (ins sz)[k]) := by rw [List.getElem?_map, ei]; rfl
    rw [get_t0 (key := toldD sz js lot (ins sz)[k]) (v := .tuple []) (key_told _ _ _ _)]
    obtain ⟨ps, q1, q2, q3⟩ := look_addG (fun l => W.d (N l)) st (toldD sz js lot (ins sz)[k]) k (.d (.tuple [])) (fun ps e => by
      have : ps.map (fun k : Nat => PyData.int k) = [] := by injection e with e; injection e
      exact List.map_eq_nil_iff.mp this) rfl
    rw [q1, bd_ok]
    have hps : ps.length ≤ 27 := by
      rcases q2 with rfl | ⟨g, hg, rfl⟩
      · exact Nat.zero_le _
      · have := hgp g hg
        omega
    simp_arith []
    rw [show N ps = PyData.tuple (ps.map fun k : Nat => .int k) from rfl, bin_addt (lim_of (by rw [List.length_map]; simp only [List.length_cons, List.length_nil]; omega)), N_snoc]
    simp_arith []
    rw [set_t0 (key_told _ _ _ _) (by rw [List.length_map, ll]; omega)]
    simp_arith []
    rw [q3]
    refine .nx ?_
    rw [hP]
    refine ⟨addG st (toldD sz js lot (ins sz)[k]) k, some (.d (.int k)), some (.d (toldD sz js lot (ins sz)[k])), rfl, rfl, ?_, ?_, ?_⟩
    · rw [List.length_append, List.length_cons, List.length_nil, hpk, take_zipIdx _ _ _ ht, List.foldl_append, hst, hpk]
      rfl
    · rw [List.length_append]
      have := addG_len st (toldD sz js lot (ins sz)[k]) k
      simp only [List.length_cons, List.length_nil]
      omega
    · intro g hg
      rw [List.length_append]
      simp only [List.length_cons, List.length_nil]
      rcases find_cases2 st (toldD sz js lot (ins sz)[k]) with nf | ⟨p', g', r', rfl, f1, f2⟩
      · rw [addG_none nf] at hg
        rcases List.mem_append.mp hg with hg | hg
        · have := hgp g hg; omega
        · rw [List.mem_singleton.mp hg]
          simp
      · rw [addG_some f1 f2] at hg
        rcases List.mem_append.mp hg with hg | hg
        · have := hgp g (List.mem_append_left _ hg); omega
        · rcases List.mem_cons.mp hg with hg | hg
          · rw [hg]
            have := hgp g' (List.mem_append_right _ List.mem_cons_self)
            simp only [List.length_append, List.length_cons, List.length_nil]
            omega
          · have := hgp g (List.mem_append_right _ (List.mem_cons_of_mem _ hg)); omega)
  have hst2 : st = grp ((ins sz).map (toldD sz js lot)) := by
    rw [hst, List.length_range]
    unfold grp
    rw [List.take_of_length_le (by rw [List.length_zipIdx, List.length_map]; exact Nat.le_refl _)]
  have gk : GK 3 st := by
    rw [hst2]
    refine grp_ok ((ins sz).map (toldD sz js lot)) (fun t ht => ?_) _ (fun p hp => ?_) [] ⟨(fun _ hg => by cases hg), List.Pairwise.nil⟩
    · obtain ⟨inp, _, rfl⟩ := List.mem_map.mp ht
      exact ⟨kd_told _ _ _ _, key_told _ _ _ _⟩
    · have := List.mem_zipIdx_iff_getElem?.mp hp
      exact List.mem_of_getElem? this
  rw [List.length_range] at hgl
  simp_arith []
  rw [lc_map (h1 := [.dct true (st.map fun g => (g.1, W.d (N g.2)))]) st (fun g => .one (.d g.1)) (fun g => N g.2)
    (by
      simp_arith []
      unfold srcW
      simp only [List.getElem?_cons_zero, List.set_cons_zero, List.map_map]
      rfl)
    (lim_of (by have := hgl.1; omega))
    (fun g hg => by
      have kk := (gk.kd g hg).2
      simp_arith [lcT]
      have e1 : subW (.r 0) (.d g.1) [.dct true (st.map fun g => (g.1, W.d (N g.2)))] = .ok (.d (N g.2)) [.dct true (st.map fun g => (g.1, W.d (N g.2)))] := by
        unfold subW dq
        simp only [List.getElem?_cons_zero, kk, if_true, gk.look (fun l => W.d (N l)) hg]
      rw [e1]
      simp_arith [])]
  simp_arith []
  rw [srt_l (srtB_N _ _) (srtK_N _ _) (lim_of (by rw [List.length_map]; have := hgl.1; omega))]
  simp_arith []
  rw [tup_l (lim_of (by rw [List.length_mergeSort, List.length_map]; have := hgl.1; omega))]
  simp_arith []
  rw [hst2]
  rfl
end
/-! over, same -/
section
variable {n : Nat} {h : Hs}
def clsT (sz : List Nat) (js : List (List (List (Option Nat)))) (lot : List Nat) : List D := srt ((grp ((ins sz).map (toldD sz js lot))).map fun g => N g.2)
theorem cls_t (sz : List Nat) (js : List (List (List (Option Nat)))) (lot : List Nat) : cls sz js lot = .tuple (clsT sz js lot) := rfl
/-- the limits that are passed -/
def overs (sz : List Nat) (js : List (List (List (Option Nat)))) (ls : List (List Nat × Nat)) : List (List Nat × Nat) := ls.filter fun l => decide (l.2 < (clsT sz js l.1).length)
def overD (sz : List Nat) (js : List (List (List (Option Nat)))) (ls : List (List Nat × Nat)) : List D := (overs sz js ls).map fun l => N l.1
theorem e_lover (hn : 7 ≤ n) (sz : List Nat) (hs : Sz sz) (js : List (List (List (Option Nat)))) (hj : Jts sz js) (ls : List (List Nat × Nat)) (hl : Lims ls sz.length) : callN T 100 n 46 [.d (N sz), .d (Lms ls), .d (Jl sz js)] h = .ok (.d (.tuple (overD sz js ls))) h := by
  rw [call_d (fe := f46) (by omega) rfl rfl rfl]
  have e4 := fun (l : List Nat × Nat) (hm : l ∈ ls) h => e_lclasses (h := h) (show 6 ≤ n - 1 by omega) sz hs js hj l.1 (hl.each _ hm).1.lot (hl.each _ hm).1.few
  simp_arith [f46, f46_b, f46_0]
  rw [lc_filter (h1 := []) ls (fun l => .one (.d (Lm l))) (fun l => decide (l.2 < (clsT sz js l.1).length)) (fun l => N l.1) (by simp_arith [Lms]; rw [wd_map]) (lim_of (by have := hl.few; omega)) (fun l hm => by
    have e5 := e4 l hm
    have ed : decide ((l.2 : Int) < ((clsT sz js l.1).length : Nat)) = decide (l.2 < (clsT sz js l.1).length) := decide_eq_decide.mpr (by omega)
    simp_arith [lcT, Lm, e5, cls_t, ed]
    cases decide (l.2 < (clsT sz js l.1).length) <;> simp_arith [])]
  simp_arith []
  have hle : ((ls.filter fun l => decide (l.2 < (clsT sz js l.1).length)).map fun l => N l.1).length ≤ 100000 := by
    rw [List.length_map]
    have := List.length_filter_le (fun l : List Nat × Nat => decide (l.2 < (clsT sz js l.1).length)) ls
    have := hl.few
    omega
  rw [tup_l (lim_of hle)]
  simp_arith []
  rfl
/-! what is the same: data to a depth -/
mutual
def sm : Nat → D → Bool
  | _, .none => true
  | _, .int _ => true
  | _, .bool _ => true
  | _, .str s => PyData.strOk s
  | 0, .tuple _ => false
  | n + 1, .tuple xs => decide (xs.length ≤ 1000) && sms n xs
  | 0, .list _ => false
  | n + 1, .list xs => decide (xs.length ≤ 1000) && sms n xs
  | _, .dict _ => false
def sms : Nat → List D → Bool
  | _, [] => true
  | n, x :: xs => sm n x && sms n xs
end
theorem sms_iff {n : Nat} : ∀ {xs : List D}, sms n xs = true ↔ ∀ x ∈ xs, sm n x = true
  | [] => by simp [sms]
  | x :: xs => by simp [sms, sms_iff (xs := xs)]
theorem cmp_neb (a b : Bool) : cmpB .NotEq (.d (.bool a)) (.d (.bool b)) h = some (!(a == b)) := by
  rw [cmp_ne (shp_of (by rw [PyData.canLay0]) (by rw [PyData.depth]; omega)) (shp_of (by rw [PyData.canLay0]) (by rw [PyData.depth]; omega)), PyData.eqv]
theorem cmp_eqb (a b : Bool) : cmpB .Eq (.d (.bool a)) (.d (.bool b)) h = some (a == b) := by
  rw [cmp_eq (shp_of (by rw [PyData.canLay0]) (by rw [PyData.depth]; omega)) (shp_of (by rw [PyData.canLay0]) (by rw [PyData.depth]; omega)), PyData.eqv]
theorem shp_s {s : Str} (hs : PyData.strOk s = true) : shp (.str s) = true := shp_of (by rw [PyData.canLay0]; exact hs) (by rw [PyData.depth]; omega)
theorem cmp_eqs {s t : Str} (hs : PyData.strOk s = true) (ht : PyData.strOk t = true) : cmpB .Eq (.d (.str s)) (.d (.str t)) h = some (s == t) := by
  rw [cmp_eq (shp_s hs) (shp_s ht), PyData.eqv]
theorem e_same (m : Nat) : ∀ (n : Nat) (x : D), sm m x = true → m + 2 ≤ n → ∀ h, callN T 100 n 39 [.d x, .d x] h = .ok (.d (.bool true)) h := by
  induction m with
  | zero =>
    intro n x hx hn h
    rw [call_d (fe := f39) (by omega) rfl rfl rfl]
    cases x with
    | none => simp_arith [f39, f39_b, f39_0, f39_1, f39_2, f39_3, f39_4]
    | int i => simp_arith [f39, f39_b, f39_0, f39_1, f39_2, f39_3, f39_4]
    | bool b => simp_arith [f39, f39_b, f39_0, f39_1, f39_2, f39_3, f39_4, cmp_eqb]
    | str s =>
      have hs : PyData.strOk s = true := by rw [sm] at hx; exact hx
      simp_arith [f39, f39_b, f39_0, f39_1, f39_2, f39_3, f39_4, cmp_eqs hs hs]
    | tuple xs => rw [sm] at hx; cases hx
    | list xs => rw [sm] at hx; cases hx
    | dict xs => rw [sm] at hx; cases hx
  | succ m ih =>
    intro n x hx hn h
    rw [call_d (fe := f39) (by omega) rfl rfl rfl]
    cases x with
    | none => simp_arith [f39, f39_b, f39_0, f39_1, f39_2, f39_3, f39_4]
    | int i => simp_arith [f39, f39_b, f39_0, f39_1, f39_2, f39_3, f39_4]
    | bool b => simp_arith [f39, f39_b, f39_0, f39_1, f39_2, f39_3, f39_4, cmp_eqb]
    | str s =>
      have hs : PyData.strOk s = true := by rw [sm] at hx; exact hx
      simp_arith [f39, f39_b, f39_0, f39_1, f39_2, f39_3, f39_4, cmp_eqs hs hs]
    | tuple xs =>
      rw [sm, Bool.and_eq_true, decide_eq_true_eq] at hx
      obtain ⟨hl, hx⟩ := hx
      rw [sms_iff] at hx
      simp_arith [f39, f39_b, f39_0, f39_1, f39_2, f39_3, f39_4, cmp_neb]
      rw [lc_map (h1 := []) (List.range xs.length) (fun i : Nat => Itm.one (.d (.int i))) (fun _ => .bool true) (by simp_arith [rng_n (show xs.length ≤ lim from lim_of (by omega))]) (lim_of (by rw [List.length_range]; omega)) (fun k hk => by
        have hk := List.mem_range.mp hk
        have e : xs[k]? = some xs[k] := List.getElem?_eq_getElem hk
        simp_arith [lcT, sub_tup e, ih (n - 1) _ (hx _ (List.getElem_mem hk)) (show m + 2 ≤ n - 1 by omega)])]
      rw [map_bool]
      simp_arith []
      rw [all_true _ _ (fun _ _ => rfl)]
    | list xs =>
      rw [sm, Bool.and_eq_true, decide_eq_true_eq] at hx
      obtain ⟨hl, hx⟩ := hx
      rw [sms_iff] at hx
      simp_arith [f39, f39_b, f39_0, f39_1, f39_2, f39_3, f39_4, cmp_neb]
      rw [lc_map (h1 := []) (List.range xs.length) (fun i : Nat => Itm.one (.d (.int i))) (fun _ => .bool true) (by simp_arith [rng_n (show xs.length ≤ lim from lim_of (by omega))]) (lim_of (by rw [List.length_range]; omega)) (fun k hk => by
        have hk := List.mem_range.mp hk
        have e : xs[k]? = some xs[k] := List.getElem?_eq_getElem hk
        simp_arith [lcT, sub_lst e, ih (n - 1) _ (hx _ (List.getElem_mem hk)) (show m + 2 ≤ n - 1 by omega)])]
      rw [map_bool]
      simp_arith []
      rw [all_true _ _ (fun _ _ => rfl)]
    | dict xs => rw [sm] at hx; cases hx
end
/-! draws -/
section
variable {n : Nat}
def srcO (q : Int × Int) : Ob := .lst [.d (.int q.1), .d (.int q.2)]
structure SrcAt (M : Int × Int → Hs) (s : Nat) : Prop where
  get : ∀ q, (M q)[s]? = some (srcO q)
  set : ∀ q q', (M q).set s (srcO q') = M q'
theorem SrcAt.app {M : Int × Int → Hs} {s : Nat} (S : SrcAt M s) (t : Hs) : SrcAt (fun q => M q ++ t) s :=
  ⟨fun q => get_app (S.get q), fun q q' => by
    rw [List.set_append_left _ _ (List.getElem?_eq_some_iff.mp (S.get q)).1, S.set]⟩
theorem SrcAt.len {M : Int × Int → Hs} {s : Nat} (S : SrcAt M s) (q q' : Int × Int) : (M q).length = (M q').length := by
  rw [← S.set q q', List.length_set]
theorem divB_n {m : Nat} (h0 : 0 < m) (l : m ≤ 100000) : divB (m : Int) = true := by
  unfold divB
  have : (m : Int).natAbs.log2 < 9000 := by
    rw [Int.natAbs_natCast]
    exact (Nat.log2_lt (by omega)).mpr (Nat.lt_of_le_of_lt l (Nat.lt_of_lt_of_le (show 100000 < 2 ^ 17 by decide) (Nat.pow_le_pow_right (by omega) (by omega))))
  rw [decide_eq_true this, decide_eq_true (show (0 : Int) < m by omega)]
  rfl
theorem mulB_big (i : Int) : mulB i 6364136223846793005 = true := by
  unfold mulB
  rw [decide_eq_true (show Builtin.Int.intBits 6364136223846793005 ≤ 64 by decide)]
  simp
theorem e_pick {M : Int × Int → Hs} {s : Nat} (S : SrcAt M s) (hn : 2 ≤ n) (m : Nat) (h0 : 0 < m) (hm : m ≤ 100000) (q : Int × Int) : ∃ (v : Nat) (q' : Int × Int), v < m ∧ callN T 100 n 38 [.r s, .d (.int m)] (M q) = .ok (.d (.int v)) (M q') := by
  have z0 : (0 : Int) < m := by omega
  have nn : ∀ i : Int, ∃ v : Nat, v < m ∧ i % (m : Int) = v := fun i => by
    have h1 := Int.emod_nonneg i (show (m : Int) ≠ 0 by omega)
    have h2 := Int.emod_lt_of_pos i z0
    exact ⟨(i % (m : Int)).toNat, by omega, by omega⟩
  rw [call_r (fe := f38) (by omega) rfl rfl rfl]
  obtain ⟨a, b⟩ := q
  have g1 : (M (a, b))[s]? = some (.lst [.d (.int a), .d (.int b)]) := S.get (a, b)
  by_cases c : 0 < a
  · obtain ⟨v, hv, ev⟩ := nn a
    refine ⟨v, (a / m, b), hv, ?_⟩
    have s1 : (M (a, b)).set s (.lst [.d (.int (a / m)), .d (.int b)]) = M (a / m, b) := S.set (a, b) (a / m, b)
    simp_arith [f38, f38_b, f38_0, f38_1, f38_2, subr_0 g1, c, z0, ev, bin_div (divB_n h0 hm), setr_0 g1, s1, res_d]
    rw [trim_same (S.len _ _)]
  · let b' : Int := (b * 6364136223846793005 + 1442695040888963407) % 2305843009213693951
    obtain ⟨v, hv, ev⟩ := nn (b' / 65536)
    refine ⟨v, (a, b'), hv, ?_⟩
    have s1 : (M (a, b)).set s (.lst [.d (.int a), .d (.int b')]) = M (a, b') := S.set (a, b) (a, b')
    have g2 : (M (a, b'))[s]? = some (.lst [.d (.int a), .d (.int b')]) := S.get (a, b')
    have zb : (0 : Int) < 2305843009213693951 := by decide
    simp_arith [f38, f38_b, f38_0, f38_1, f38_2, subr_0 g1, subr_1 g1, c, z0, bin_mul (mulB_big b), zb, setr_1 g1]
    rw [show (M (a, b)).set s (.lst [.d (.int a), .d (.int ((b * 6364136223846793005 + 1442695040888963407) % 2305843009213693951))]) = M (a, b') from s1]
    simp_arith [subr_1 g2, bin_div (show divB 65536 = true by decide), z0, ev, res_d]
    rw [trim_same (S.len _ _)]
end
/-! sources, lots, shuffles, joint tables drawn -/
section
variable {n : Nat} {h : Hs}
theorem mulB_l (i : Int) : mulB 977 i = true := by
  unfold mulB
  rw [decide_eq_true (show Builtin.Int.intBits 977 ≤ 64 by decide)]
  simp
theorem mulB_self {i : Int} (hi : Builtin.Int.intBits i ≤ 1048576) : mulB i i = true := by
  unfold mulB
  rw [decide_eq_true (show Builtin.Int.intBits i + Builtin.Int.intBits i ≤ 134217728 by omega)]
  simp
theorem bin_pow18 {m : Bool} : binW .Pow m (.d (.int 10)) (.d (.int 18)) h = .ok (.d (.int 1000000000000000000)) h := by rfl
theorem e_source (hn : 2 ≤ n) (z : Int) (hz : Builtin.Int.intBits z ≤ 1048576) : ∃ q, callN T 100 n 37 [.d (.int z)] h = .ok (.r h.length) (h ++ [srcO q]) := by
  rw [call_d (fe := f37) (by omega) rfl rfl rfl]
  have zb : (0 : Int) < 2305843009213693951 := by decide
  have fin : ∀ q, home ((Out.rt (.r 0) [srcO q]).res false 0) h = .ok (.r h.length) (h ++ [srcO q]) := fun q => by
    show Res.ok (W.r (0 + h.length)) (h ++ [Ob.sh h.length (srcO q)]) = _
    rw [Nat.zero_add]
    rfl
  by_cases c : (1000000000000000000 : Int) ≤ z
  · simp_arith [f37, f37_b, f37_0, f37_1, bin_pow18, c, bin_mul (mulB_self hz), bin_mul (mulB_l z), zb]
    exact ⟨(_, _), fin (_, _)⟩
  · simp_arith [f37, f37_b, f37_0, f37_1, bin_pow18, c, bin_mul (mulB_self hz), bin_mul (mulB_l z), zb]
    exact ⟨(_, _), fin (_, _)⟩
def lotsU : Nat → List (List Nat)
  | 0 => [[]]
  | k + 1 => lotsU k ++ (lotsU k).map (· ++ [k])
theorem lotsU_ok : ∀ (c : Nat) (lot : List Nat), lot ∈ lotsU c → (∀ x ∈ lot, x < c) ∧ lot.Pairwise (· < ·) ∧ lot.length ≤ c
  | 0, lot, hm => by
    rw [List.mem_singleton.mp hm]
    exact ⟨(fun _ h => by cases h), List.Pairwise.nil, Nat.le_refl _⟩
  | k + 1, lot, hm => by
    rcases List.mem_append.mp hm with hm | hm
    · obtain ⟨h1, h2, h3⟩ := lotsU_ok k lot hm
      exact ⟨fun x hx => Nat.lt_succ_of_lt (h1 x hx), h2, Nat.le_succ_of_le h3⟩
    · obtain ⟨l, hl, rfl⟩ := List.mem_map.mp hm
      obtain ⟨h1, h2, h3⟩ := lotsU_ok k l hl
      refine ⟨fun x hx => ?_, List.pairwise_append.mpr ⟨h2, List.pairwise_singleton _ _, fun a ha b hb => ?_⟩, by simp; omega⟩
      · rcases List.mem_append.mp hx with hx | hx
        · exact Nat.lt_succ_of_lt (h1 x hx)
        · rw [List.mem_singleton.mp hx]
          exact Nat.lt_succ_self k
      · rw [List.mem_singleton.mp hb]
        exact h1 a ha
theorem lotsU_nd : ∀ c : Nat, (lotsU c).Nodup
  | 0 => by simp [lotsU]
  | k + 1 => by
    show (lotsU k ++ (lotsU k).map (· ++ [k])).Nodup
    rw [List.nodup_append]
    refine ⟨lotsU_nd k, ?_, fun a ha b hb e => ?_⟩
    · rw [List.nodup_iff_pairwise_ne, List.pairwise_map]
      refine List.Pairwise.imp (fun hab e => hab (List.append_cancel_right e)) (List.nodup_iff_pairwise_ne.mp (lotsU_nd k))
    · obtain ⟨l, _, rfl⟩ := List.mem_map.mp hb
      have := (lotsU_ok k a ha).1 k (by rw [e]; simp)
      omega
theorem lotsU_len : ∀ c : Nat, (lotsU c).length = 2 ^ c
  | 0 => rfl
  | k + 1 => by
    show (lotsU k ++ (lotsU k).map (· ++ [k])).length = _
    rw [List.length_append, List.length_map, lotsU_len k, Nat.pow_succ]
    omega
theorem Lot.of {lot : List Nat} {c : Nat} (h1 : ∀ x ∈ lot, x < c) (h2 : lot.Pairwise (· < ·)) : Lot lot c := ⟨h1, fun k hk => pw_at h2 k hk⟩
theorem e_lots (hn : 2 ≤ n) (c : Nat) (hc : c ≤ 3) : ∃ lots : List (List Nat), callN T 100 n 41 [.d (.int c)] h = .ok (.d (.list (lots.map N))) h ∧ lots.Perm (lotsU c) := by
  rw [call_d (fe := f41) (by omega) rfl rfl rfl]
  obtain ⟨ys, e1, p1, _⟩ := srt_N (lotsU c) (lotsU_nd c)
  refine ⟨ys, ?_, p1⟩
  simp_arith [f41, f41_b, f41_0, f41_1, f41_2]
  rw [rng_n (lim_of (by omega))]
  simp_arith []
  generalize hq : forL _ _ _ _ = o
  obtain ⟨e', h', rfl, x, rfl, rfl⟩ := for_endP hq (List.range c) (fun i : Nat => Itm.one (.d (.int i))) (fun pre e h => ∃ x, e = [some (.d (.int c)), some (.d (.list ((lotsU pre.length).map N))), x, none] ∧ h = []) rfl ⟨none, rfl, rfl⟩ (by
    rintro p k r e h hp ⟨x, rfl, rfl⟩ P hP
    obtain ⟨hk, _, hpk⟩ := pre_range hp
    have hle : (lotsU p.length).length ≤ 8 := by
      rw [lotsU_len]
      exact Nat.le_trans (Nat.pow_le_pow_right (by omega) (show p.length ≤ 3 by omega)) (by decide)
    simp_arith [forT]
    rw [lc_map (h1 := []) (lotsU p.length) (fun l => .one (.d (N l))) (fun l => N (l ++ [k])) (by simp_arith []; rw [wd_map]) (lim_of (by omega)) (fun l hl => by
      have := (lotsU_ok _ l hl).2.2
      simp_arith [lcT, N]
      rw [bin_addt (lim_of (by rw [List.length_map]; simp; omega)), bd_ok, pz_nx_ok, N_snoc]
      rfl)]
    simp_arith []
    rw [bin_addl (lim_of (by rw [List.length_map, List.length_map]; omega))]
    simp_arith []
    refine .nx ?_
    rw [hP]
    refine ⟨some (.d (.int k)), ?_, rfl⟩
    rw [List.length_append, List.length_cons, List.length_nil]
    show _ = [_, some (W.d (.list ((lotsU (p.length + 1)).map N))), _, _]
    rw [show lotsU (p.length + 1) = lotsU p.length ++ (lotsU p.length).map (· ++ [p.length]) from rfl, List.map_append, List.map_map, hpk]
    rfl)
  have hle : (lotsU c).length ≤ 8 := by
    rw [lotsU_len]
    exact Nat.le_trans (Nat.pow_le_pow_right (by omega) hc) (by decide)
  rw [List.length_range]
  simp_arith []
  have z1 : srtB ((lotsU c).map N) = true := srtB_N (lotsU c) id
  have z2 : srtK ((lotsU c).map N) = true := srtK_N (lotsU c) id
  rw [srt_l z1 z2 (lim_of (by rw [List.length_map]; omega))]
  simp_arith []
  unfold srt at e1
  rw [e1]
theorem erase_perm {α : Type} : ∀ (l : List α) (i : Nat) (a : α), l[i]? = some a → (a :: l.eraseIdx i).Perm l
  | [], _, _, e => by simp at e
  | x :: r, 0, a, e => by
    have : x = a := by simpa using e
    rw [this]
    exact List.Perm.refl _
  | x :: r, i + 1, a, e => by
    have e' : r[i]? = some a := by simpa using e
    rw [List.eraseIdx_cons_succ]
    exact (List.Perm.swap x a _).trans (List.Perm.cons x (erase_perm r i a e'))
theorem erase_map {α β : Type} (f : α → β) : ∀ (l : List α) (i : Nat), (l.map f).eraseIdx i = (l.eraseIdx i).map f
  | [], _ => rfl
  | x :: r, 0 => rfl
  | x :: r, i + 1 => by
    rw [List.map_cons, List.eraseIdx_cons_succ, List.eraseIdx_cons_succ, List.map_cons, erase_map f r i]
theorem e_shuffled {M : Int × Int → Hs} {s : Nat} (S : SrcAt M s) (cl : ∀ q, Cl (M q)) (hn : 3 ≤ n) (row : List (List Nat)) (hr : row.length ≤ 1000) (q : Int × Int) : ∃ (found : List (List Nat)) (q' : Int × Int), found.Perm row ∧ callN T 100 n 40 [.r s, .d (.list (row.map N))] (M q) = .ok (.d (.list (found.map N))) (M q') := by
  rw [call_r (fe := f40) (by omega) rfl rfl rfl]
  simp_arith [f40, f40_b, f40_0, f40_1, f40_2, f40_3, List.length_map]
  rw [lstm_l (lim_of (by rw [List.length_map]; omega))]
  simp_arith [List.length_append, List.length_map]
  rw [rng_n (lim_of (by omega)), List.append_assoc]
  simp_arith []
  generalize hq : forL _ _ _ _ = o
  obtain ⟨e', h', rfl, left, found, q', x, rfl, rfl, hlen, hperm⟩ := for_endP hq (List.range row.length) (fun i : Nat => Itm.one (.d (.int i))) (fun pre e h => ∃ (left found : List (List Nat)) (q' : Int × Int) (x : Option W), e = [some (.r s), some (.d (.list (row.map N))), some (.r (M q).length), some (.r ((M q).length + 1)), x] ∧ h = M q' ++ [.lst ((left.map N).map W.d), .lst ((found.map N).map W.d)] ∧ left.length + pre.length = row.length ∧ (found ++ left).Perm row) rfl ⟨row, [], q, none, rfl, rfl, rfl, List.Perm.refl _⟩ (by
    rintro p k r e h hp ⟨left, found, q', x, rfl, rfl, hlen, hperm⟩ P hP
    obtain ⟨hk, _, hpk⟩ := pre_range hp
    have hl0 : 0 < left.length := by omega
    obtain ⟨v, q2, hv, ev⟩ := e_pick (S.app [.lst ((left.map N).map W.d), .lst ((found.map N).map W.d)]) (show 2 ≤ n - 1 by omega) left.length hl0 (by omega) q'
    have L0 : (M q).length = (M q').length := S.len _ _
    have L1 : (M q).length = (M q2).length := S.len _ _
    have g1 : ∀ q1, (M q1 ++ [Ob.lst ((left.map N).map W.d), .lst ((found.map N).map W.d)])[(M q).length]? = some (.lst ((left.map N).map W.d)) := fun q1 => by
      rw [S.len q q1, get_at0]
      rfl
    have g2 : ∀ q1, (M q1 ++ [Ob.lst ((left.map N).map W.d), .lst ((found.map N).map W.d)])[(M q).length + 1]? = some (.lst ((found.map N).map W.d)) := fun q1 => by
      rw [S.len q q1, get_at]
      rfl
    have hlf : found.length + left.length = row.length := by
      have := hperm.length_eq
      rw [List.length_append] at this
      exact this
    have lenr : ∀ q1, bifW .len false [.r (M q).length] (M q1 ++ [Ob.lst ((left.map N).map W.d), .lst ((found.map N).map W.d)]) = .ok (.d (.int left.length)) (M q1 ++ [Ob.lst ((left.map N).map W.d), .lst ((found.map N).map W.d)]) := fun q1 => by
      unfold bifW sq
      simp only [g1 q1, List.length_map]
      rfl
    have ea : left[v]? = some left[v] := List.getElem?_eq_getElem hv
    have ew : ((left.map N).map W.d)[v]? = some (.d (N left[v])) := by rw [List.getElem?_map, List.getElem?_map, ea]; rfl
    have g3 : ((M q2 ++ [Ob.lst ((left.map N).map W.d), .lst ((found.map N).map W.d)]).set (M q).length (.lst (((left.map N).map W.d).eraseIdx v))) = M q2 ++ [Ob.lst (((left.map N).map W.d).eraseIdx v), .lst ((found.map N).map W.d)] := by
      rw [S.len q q2, set_at0]
      rfl
    have g4 : (M q2 ++ [Ob.lst (((left.map N).map W.d).eraseIdx v), .lst ((found.map N).map W.d)])[(M q).length + 1]? = some (.lst ((found.map N).map W.d)) := by
      rw [S.len q q2, get_at]
      rfl
    simp_arith [forT]
    simp_arith [lenr, ev]
    rw [mth_pop1 (i := v) (g1 q') (g1 q2) (lim_of (by rw [List.length_map, List.length_map]; omega)) ew, g3]
    simp_arith []
    rw [mth_app (g2 q') g4 (Nat.lt_of_le_of_lt (show _ ≤ 1000 by rw [List.length_map, List.length_map]; omega) (by decide))]
    simp_arith []
    refine .nx ?_
    rw [hP]
    refine ⟨left.eraseIdx v, found ++ [left[v]], q2, some (.d (.int k)), rfl, ?_, ?_, ?_⟩
    · rw [S.len q q2, set_at]
      rw [List.map_append, List.map_append, erase_map, erase_map]
      rfl
    · rw [List.length_eraseIdx, if_pos hv, List.length_append]
      simp only [List.length_cons, List.length_nil]
      omega
    · refine List.Perm.trans ?_ hperm
      rw [List.append_assoc]
      exact List.Perm.append_left _ (erase_perm left v _ ea))
  refine ⟨found, q', ?_, ?_⟩
  · rw [List.length_range] at hlen
    have : left = [] := List.length_eq_zero_iff.mp (by omega)
    rw [this, List.append_nil] at hperm
    exact hperm
  · simp_arith []
    show leave true (M q).length (.r ((M q).length + 1)) _ = _
    unfold leave
    have c1 : clean (M q).length (M q' ++ [.lst ((left.map N).map W.d), .lst ((found.map N).map W.d)]) = true := by
      unfold clean
      rw [S.len q q', List.take_left]
      exact cl q'
    have g2 : (M q' ++ [Ob.lst ((left.map N).map W.d), .lst ((found.map N).map W.d)])[(M q).length + 1]? = some (.lst ((found.map N).map W.d)) := by
      rw [S.len q q', get_at]
      rfl
    simp only [if_true, c1, and_true]
    rw [if_pos (by omega), g2]
    simp only [allD_d]
    rw [S.len q q', List.take_left]
end
/-! joint tables drawn -/
section
variable {n : Nat} {h : Hs}
theorem tup_r {h : Hs} {a : Nat} {xs : List D} {m : Bool} (e : h[a]? = some (.lst (xs.map W.d))) (l : xs.length ≤ lim) : bifW .tuple m [.r a] h = .ok (.d (.tuple xs)) h := by
  unfold bifW sq
  simp only [e]
  exact mkt_d l
theorem e_joint {M : Int × Int → Hs} {s : Nat} (S : SrcAt M s) (cl : ∀ q, Cl (M q)) (hn : 3 ≤ n) (sz : List Nat) (hs : Sz sz) (q : Int × Int) : ∃ (rows : List (List (Option Nat))) (q' : Int × Int), Jt sz rows ∧ callN T 100 n 44 [.r s, .d (N sz)] (M q) = .ok (.d (J sz rows)) (M q') := by
  have h3 := hs.three
  have hc := hs.len
  rw [call_r (fe := f44) (by omega) rfl rfl rfl]
  have e4 := fun h => e_linputs (h := h) (show 2 ≤ n - 1 by omega) sz hs
  simp_arith [f44, f44_b, f44_0, f44_1, f44_2, f44_3, f44_4, N, List.length_map]
  rw [show PyData.tuple (sz.map fun k : Nat => .int k) = N sz from rfl]
  generalize hx : evE _ (.lc _ _ _ _ _ _ _ _) _ _ = rr
  obtain ⟨deaf, q1, hd, _, rfl⟩ := lc_exE hx M q (List.range sz.length) (fun i : Nat => Itm.one (.d (.int i))) (fun _ _ => True) PyData.bool (by simp_arith [rng_n (show sz.length ≤ lim from lim_of (by omega))]) (lim_of (by rw [List.length_range]; omega)) (fun a ha q => by
    obtain ⟨v, q', hv, ev⟩ := e_pick S (show 2 ≤ n - 1 by omega) 3 (by omega) (by omega) q
    refine ⟨(((v : Nat) : Int) == 0), q', trivial, ?_⟩
    have ev : callN T 100 (n - 1) 38 [.r s, .d (.int 3)] (M q) = .ok (.d (.int v)) (M q') := ev
    simp_arith [lcT, ev])
  rw [List.length_range] at hd
  simp_arith [e4]
  rw [wd_map]
  generalize hq : forL _ _ _ _ = o
  obtain ⟨e', h', rfl, rows, q2, x, y, rfl, rfl, hlen, hrow⟩ := for_endP hq (ins sz) (fun i => Itm.one (.d (N i))) (fun pre e h => ∃ (rows : List (List (Option Nat))) (q' : Int × Int) (x y : Option W), e = [some (.r s), some (.d (N sz)), some (.d (.int sz.length)), some (.d (.list (deaf.map PyData.bool))), some (.r (M q).length), x, y, none] ∧ h = M q' ++ [.lst ((rows.map Ro).map W.d)] ∧ rows.length = pre.length ∧ ∀ r ∈ rows, r.length = sz.length ∧ ∀ k, some k ∈ r → k ≤ 9) rfl ⟨[], q1, none, none, by rw [S.len q q1], rfl, rfl, fun _ h => by cases h⟩ (by
    rintro p inp r e h hp ⟨rows, q', x, y, rfl, rfl, hlen, hrow⟩ P hP
    have hpl : p.length ≤ 27 := by
      have := congrArg List.length hp
      rw [List.length_append, List.length_cons] at this
      omega
    obtain ⟨v, q2, hv, ev⟩ := e_pick (S.app [.lst ((rows.map Ro).map W.d)]) (show 2 ≤ n - 1 by omega) 2 (by omega) (by omega) q'
    have ev : callN T 100 (n - 1) 38 [.r s, .d (.int 2)] (M q' ++ [.lst ((rows.map Ro).map W.d)]) = .ok (.d (.int v)) (M q2 ++ [.lst ((rows.map Ro).map W.d)]) := ev
    have g1 : ∀ q1, (M q1 ++ [Ob.lst ((rows.map Ro).map W.d)])[(M q).length]? = some (.lst ((rows.map Ro).map W.d)) := fun q1 => by
      rw [S.len q q1, get_at0]
      rfl
    simp_arith [forT, ev]
    generalize hx : evE _ (.lc _ _ _ _ _ _ _ _) _ _ = rr
    obtain ⟨row, q3, h1, h2, rfl⟩ := lc_exE hx (fun q => M q ++ [.lst ((rows.map Ro).map W.d)]) q2 (List.range sz.length) (fun i : Nat => Itm.one (.d (.int i))) (fun _ (o : Option Nat) => ∀ k, o = some k → k ≤ 9) O (by simp_arith [rng_n (show sz.length ≤ lim from lim_of (by omega))]) (lim_of (by rw [List.length_range]; omega)) (fun a ha q => by
        have ha := List.mem_range.mp ha
        have ea : (deaf.map PyData.bool)[a]? = some (.bool (deaf[a]'(by omega))) := by rw [List.getElem?_map, List.getElem?_eq_getElem (by omega)]; rfl
        cases eb : deaf[a]'(by omega) with
        | true =>
          rw [eb] at ea
          refine ⟨none, q, (fun k e => by cases e), ?_⟩
          simp_arith [lcT, sub_lst ea]
          rfl
        | false =>
          rw [eb] at ea
          obtain ⟨v4, q4, hv4, ev4⟩ := e_pick (S.app [.lst ((rows.map Ro).map W.d)]) (show 2 ≤ n - 1 by omega) 4 (by omega) (by omega) q
          have ev4 : callN T 100 (n - 1) 38 [.r s, .d (.int 4)] (M q ++ [.lst ((rows.map Ro).map W.d)]) = .ok (.d (.int v4)) (M q4 ++ [.lst ((rows.map Ro).map W.d)]) := ev4
          by_cases c : 0 < v4
          · refine ⟨some v, q4, (fun k e => by cases e; omega), ?_⟩
            have c' : decide ((0 : Int) < (v4 : Int)) = true := decide_eq_true (by omega)
            simp_arith [lcT, sub_lst ea, ev4, c']
            rfl
          · obtain ⟨v3, q5, hv3, ev3⟩ := e_pick (S.app [.lst ((rows.map Ro).map W.d)]) (show 2 ≤ n - 1 by omega) 3 (by omega) (by omega) q4
            have ev3 : callN T 100 (n - 1) 38 [.r s, .d (.int 3)] (M q4 ++ [.lst ((rows.map Ro).map W.d)]) = .ok (.d (.int v3)) (M q5 ++ [.lst ((rows.map Ro).map W.d)]) := ev3
            refine ⟨some v3, q5, (fun k e => by cases e; omega), ?_⟩
            have c' : decide ((0 : Int) < (v4 : Int)) = false := decide_eq_false (by omega)
            simp_arith [lcT, sub_lst ea, ev4, c', ev3]
            rfl)
    rw [List.length_range] at h1
    have h2 : ∀ k, some k ∈ row → k ≤ 9 := fun k hk => by
      obtain ⟨_, _, z⟩ := h2 _ hk
      exact z k rfl
    simp_arith []
    rw [tup_l (lim_of (by rw [List.length_map]; omega))]
    simp_arith []
    rw [mth_app (g1 q2) (g1 q3) (Nat.lt_of_le_of_lt (show _ ≤ 27 by rw [List.length_map, List.length_map]; omega) (by decide))]
    simp_arith []
    refine .nx ?_
    rw [hP]
    refine ⟨rows ++ [row], q3, some (.d (N inp)), some (.d (.int v)), rfl, ?_, by rw [List.length_append, List.length_append, hlen]; rfl, fun r hr => ?_⟩
    · rw [S.len q q3, set_at0, List.map_append, List.map_append]
      rfl
    · rcases List.mem_append.mp hr with hr | hr
      · exact hrow r hr
      · rw [List.mem_singleton.mp hr]
        exact ⟨h1, h2⟩)
  refine ⟨rows, q2, ⟨hlen, fun r hr => (hrow r hr).1, fun r hr => (hrow r hr).2⟩, ?_⟩
  have g1 : (M q2 ++ [Ob.lst ((rows.map Ro).map W.d)])[(M q).length]? = some (.lst ((rows.map Ro).map W.d)) := by
    rw [S.len q q2, get_at0]
    rfl
  simp_arith []
  rw [tup_r g1 (lim_of (by rw [List.length_map]; omega))]
  simp_arith [res_d]
  rw [S.len q q2, trim_app (cl q2)]
  rfl
end
/-! the ledger -/
section
variable {n : Nat} {h : Hs}
abbrev Rw := List (List (Option Nat))
structure LSt where
  ns : List Str
  js : List Rw
  past : List (Str × List Str × List Rw)
def Ns (ns : List Str) : D := .tuple (ns.map .str)
def pastD (sz : List Nat) (e : Str × List Str × List Rw) : D := .tuple [.str e.1, Ns e.2.1, Js sz e.2.2]
def ledF (sz : List Nat) (ls : List (List Nat × Nat)) (ns : List Str) (js : List Rw) (p : Nat) : List (Str × W) := [("sizes", .d (N sz)), ("limits", .d (Lms ls)), ("names", .d (Ns ns)), ("kept", .d (Js sz js)), ("past", .r p)]
def ledO (sz : List Nat) (ls : List (List Nat × Nat)) (ns : List Str) (js : List Rw) (p : Nat) : Ob := .ins "LeakLedger" (ledF sz ls ns js p)
def pastO (sz : List Nat) (past : List (Str × List Str × List Rw)) : Ob := .lst ((past.map (pastD sz)).map W.d)
structure Led (h : Hs) (a p : Nat) (sz : List Nat) (ls : List (List Nat × Nat)) (st : LSt) : Prop where
  o : h[a]? = some (ledO sz ls st.ns st.js p)
  p : h[p]? = some (pastO sz st.past)
section
variable {sz : List Nat} {ls : List (List Nat × Nat)} {ns : List Str} {js : List Rw} {p : Nat} {v : W}
theorem lf_1 : List.lookup ("sizes" : Str) (ledF sz ls ns js p) = some (.d (N sz)) := rfl
theorem lf_2 : List.lookup ("limits" : Str) (ledF sz ls ns js p) = some (.d (Lms ls)) := rfl
theorem lf_3 : List.lookup ("names" : Str) (ledF sz ls ns js p) = some (.d (Ns ns)) := rfl
theorem lf_4 : List.lookup ("kept" : Str) (ledF sz ls ns js p) = some (.d (Js sz js)) := rfl
theorem lf_5 : List.lookup ("past" : Str) (ledF sz ls ns js p) = some (.r p) := rfl
theorem lm_1 : List.lookup ("check_joint" : Str) (ledF sz ls ns js p) = none := rfl
theorem lm_2 : List.lookup ("over" : Str) (ledF sz ls ns js p) = none := rfl
theorem lm_3 : List.lookup ("change" : Str) (ledF sz ls ns js p) = none := rfl
theorem lm_4 : List.lookup ("tell" : Str) (ledF sz ls ns js p) = none := rfl
theorem lm_5 : List.lookup ("drop" : Str) (ledF sz ls ns js p) = none := rfl
theorem lm_6 : List.lookup ("undo" : Str) (ledF sz ls ns js p) = none := rfl
theorem lm_7 : List.lookup ("joints" : Str) (ledF sz ls ns js p) = none := rfl
theorem lm_8 : List.lookup ("classes" : Str) (ledF sz ls ns js p) = none := rfl
theorem lm_9 : List.lookup ("rest" : Str) (ledF sz ls ns js p) = none := rfl
theorem lm_10 : List.lookup ("possible" : Str) (ledF sz ls ns js p) = none := rfl
theorem lm_11 : List.lookup ("would" : Str) (ledF sz ls ns js p) = none := rfl
theorem lm_12 : List.lookup ("twin" : Str) (ledF sz ls ns js p) = none := rfl
theorem at_1 : T.at_ "LeakLedger" "sizes" = true := by rfl
theorem at_2 : T.at_ "LeakLedger" "limits" = true := by rfl
theorem at_3 : T.at_ "LeakLedger" "names" = true := by rfl
theorem at_4 : T.at_ "LeakLedger" "kept" = true := by rfl
theorem at_5 : T.at_ "LeakLedger" "past" = true := by rfl
end
section
variable {a p : Nat} {sz : List Nat} {ls : List (List Nat × Nat)} {st : LSt}
theorem Led.f1 (L : Led h a p sz ls st) : fldW (CtN T 100 n) "sizes" (.r a) h = .ok (.d (N sz)) h := fld_i L.o at_1 lf_1
theorem Led.f2 (L : Led h a p sz ls st) : fldW (CtN T 100 n) "limits" (.r a) h = .ok (.d (Lms ls)) h := fld_i L.o at_2 lf_2
theorem Led.f3 (L : Led h a p sz ls st) : fldW (CtN T 100 n) "names" (.r a) h = .ok (.d (Ns st.ns)) h := fld_i L.o at_3 lf_3
theorem Led.f4 (L : Led h a p sz ls st) : fldW (CtN T 100 n) "kept" (.r a) h = .ok (.d (Js sz st.js)) h := fld_i L.o at_4 lf_4
theorem Led.f5 (L : Led h a p sz ls st) : fldW (CtN T 100 n) "past" (.r a) h = .ok (.r p) h := fld_i L.o at_5 lf_5
theorem Led.app (L : Led h a p sz ls st) (t : Hs) : Led (h ++ t) a p sz ls st := ⟨get_app L.o, get_app L.p⟩
theorem Led.ne (L : Led h a p sz ls st) : a ≠ p := fun e => by
  have z := L.o
  rw [e, L.p] at z
  cases z
end
theorem eqv_N (a : List Nat) : PyData.eqv (N a) (N a) = true := (kd_eqv (kd_N a) (kd_N a)).mpr rfl
theorem e_is_joint_n (hn : 2 ≤ n) : callN T 100 n 9 [.d .none] h = .ok (.d (.bool false)) h := by
  rw [call_d (fe := f9) (by omega) rfl rfl rfl]
  simp_arith [f9, f9_b, f9_0]
theorem e_is_joint_e (hn : 6 ≤ n) (sz : List Nat) (hs : Sz sz) : callN T 100 n 9 [.d (.tuple [N sz, .tuple []])] h = .ok (.d (.bool false)) h := by
  rw [call_d (fe := f9) (by omega) rfl rfl rfl]
  have hp := ins_pos hs.pos
  have z : (((0 : Int)) == ((ins sz).length : Int)) = false := by rw [beq_eq_false_iff_ne]; omega
  simp_arith [f9, f9_b, f9_0, f9_1, f9_2, f9_3, f9_4, e_sizes, cn6, e_inputs, List.length_map, z]
section
variable {a p : Nat} {sz : List Nat} {ls : List (List Nat × Nat)} {st : LSt}
theorem e_cjoint (hn : 7 ≤ n) (hs : Sz sz) (L : Led h a p sz ls st) (rows : Rw) (hj : Jt sz rows) : callN T 100 n 25 [.r a, .d (J sz rows)] h = .ok (.d .none) h := by
  rw [call_r (fe := f25) (by omega) rfl rfl rfl]
  have e1 := fun h => e_is_joint (h := h) (show 6 ≤ n - 1 by omega) sz hs rows hj
  simp_arith [f25, f25_b, f25_0, e1, J, L.f1, cmp_ne (kd_shp (kd_N sz) (by omega)) (kd_shp (kd_N sz) (by omega)), eqv_N]
  rw [show PyData.tuple [N sz, .tuple (rows.map Ro)] = J sz rows from rfl, e1]
  simp_arith [J, L.f1, cmp_ne (kd_shp (kd_N sz) (by omega)) (kd_shp (kd_N sz) (by omega)), eqv_N]
  rw [trim_same rfl]
theorem e_cjoint_n (hn : 7 ≤ n) : callN T 100 n 25 [.r a, .d .none] h = .ex ⟨"InvalidJoint", none⟩ h := by
  rw [call_r (fe := f25) (by omega) rfl rfl rfl]
  have e1 := fun h => e_is_joint_n (h := h) (show 2 ≤ n - 1 by omega)
  simp_arith [f25, f25_b, f25_0, e1]
  rw [trim_same rfl]
theorem e_cjoint_e (hn : 7 ≤ n) (hs : Sz sz) : callN T 100 n 25 [.r a, .d (.tuple [N sz, .tuple []])] h = .ex ⟨"InvalidJoint", none⟩ h := by
  rw [call_r (fe := f25) (by omega) rfl rfl rfl]
  have e1 := fun h => e_is_joint_e (h := h) (show 6 ≤ n - 1 by omega) sz hs
  simp_arith [f25, f25_b, f25_0, e1]
  rw [trim_same rfl]
theorem Js_snoc (js : List Rw) (rows : Rw) : PyData.tuple (js.map (J sz) ++ [J sz rows]) = Js sz (js ++ [rows]) := by
  unfold Js
  rw [List.map_append]
  rfl
theorem e_over (hn : 8 ≤ n) (hs : Sz sz) (L : Led h a p sz ls st) (cl : Cl h) (hl : Lims ls sz.length) (rows : Rw) (hj : Jts sz (st.js ++ [rows])) : callN T 100 n 26 [.r a, .d (J sz rows)] h = .ok (.d (.tuple (overD sz (st.js ++ [rows]) ls))) h := by
  rw [call_r (fe := f26) (by omega) rfl rfl rfl]
  have L' := L.app [.lst []]
  have hfew := hj.few
  rw [List.length_append] at hfew
  simp_arith [f26, f26_b, f26_0, f26_1, f26_2, L'.f2, Lms]
  rw [wd_map]
  generalize hq : forL _ _ _ _ = o
  obtain ⟨e', h', rfl, x, y, rfl, rfl⟩ := for_endP hq ls (fun l => .one (.d (Lm l))) (fun pre e h' => ∃ (x y : Option W), e = [some (.r a), some (.d (J sz rows)), some (.r h.length), x, y] ∧ h' = h ++ [.lst ((overD sz (st.js ++ [rows]) pre).map W.d)]) rfl ⟨none, none, rfl, rfl⟩ (by
    rintro pre l r e h' hp ⟨x, y, rfl, rfl⟩ P hP
    have hm : l ∈ ls := by rw [← hp]; exact List.mem_append_right _ List.mem_cons_self
    have Lq := L.app [.lst ((overD sz (st.js ++ [rows]) pre).map W.d)]
    have e1 := fun h => e_classes_by (h := h) (show 6 ≤ n - 1 by omega) sz hs (st.js ++ [rows]) hj l.1 (hl.each l hm).1.lot (hl.each l hm).1.few
    have g : (h ++ [Ob.lst ((overD sz (st.js ++ [rows]) pre).map W.d)])[h.length]? = some (.lst ((overD sz (st.js ++ [rows]) pre).map W.d)) := by rw [get_at0]; rfl
    have hlen : (overD sz (st.js ++ [rows]) pre).length ≤ 1000 := by
      unfold overD overs
      rw [List.length_map]
      refine Nat.le_trans (List.length_filter_le _ _) ?_
      have := congrArg List.length hp
      rw [List.length_append] at this
      have := hl.few
      omega
    have ov : overD sz (st.js ++ [rows]) (pre ++ [l]) = overD sz (st.js ++ [rows]) pre ++ (if decide (l.2 < (clsT sz (st.js ++ [rows]) l.1).length) = true then [N l.1] else []) := by
      unfold overD overs
      rw [List.filter_append, List.map_append, List.filter_cons, List.filter_nil]
      split <;> rfl
    have ed : decide ((l.2 : Int) < ((clsT sz (st.js ++ [rows]) l.1).length : Nat)) = decide (l.2 < (clsT sz (st.js ++ [rows]) l.1).length) := decide_eq_decide.mpr (by omega)
    simp_arith [forT, Lm, Lq.f1, Lq.f4]
    rw [Js, bin_addt (lim_of (by rw [List.length_map]; simp only [List.length_cons, List.length_nil]; omega)), Js_snoc]
    simp_arith [e1, cls_t, ed]
    cases hd : decide (l.2 < (clsT sz (st.js ++ [rows]) l.1).length) with
    | true =>
      rw [hd, if_pos rfl] at ov
      simp_arith []
      rw [mth_app g g (Nat.lt_of_le_of_lt (show _ ≤ 1000 by rw [List.length_map]; exact hlen) (by decide))]
      simp_arith []
      refine .nx ?_
      rw [hP]
      refine ⟨_, _, rfl, ?_⟩
      rw [ov, set_at0, List.map_append]
      rfl
    | false =>
      rw [hd, if_neg Bool.false_ne_true, List.append_nil] at ov
      simp_arith []
      refine .nx ?_
      rw [hP, ov]
      exact ⟨_, _, rfl, rfl⟩)
  have hlen : (overD sz (st.js ++ [rows]) ls).length ≤ 1000 := by
    unfold overD overs
    rw [List.length_map]
    exact Nat.le_trans (List.length_filter_le _ _) hl.few
  have g : (h ++ [Ob.lst ((overD sz (st.js ++ [rows]) ls).map W.d)])[h.length]? = some (.lst ((overD sz (st.js ++ [rows]) ls).map W.d)) := by rw [get_at0]; rfl
  simp_arith []
  rw [tup_r g (lim_of (by omega))]
  simp_arith []
  rw [trim_app cl]
end
end
/-! the ledger's methods that change it -/
section
variable {n : Nat} {h : Hs}
/-- the heap with the ledger in another state -/
def upd (h : Hs) (a p : Nat) (sz : List Nat) (ls : List (List Nat × Nat)) (st : LSt) : Hs := (h.set p (pastO sz st.past)).set a (ledO sz ls st.ns st.js p)
theorem upd_len (h : Hs) (a p : Nat) (sz : List Nat) (ls : List (List Nat × Nat)) (st : LSt) : (upd h a p sz ls st).length = h.length := by
  unfold upd
  rw [List.length_set, List.length_set]
theorem putF_3 (sz : List Nat) (ls : List (List Nat × Nat)) (ns ns' : List Str) (js : List Rw) (p : Nat) : putF (ledF sz ls ns js p) "names" (.d (Ns ns')) = ledF sz ls ns' js p := by rfl
theorem putF_4 (sz : List Nat) (ls : List (List Nat × Nat)) (ns : List Str) (js js' : List Rw) (p : Nat) : putF (ledF sz ls ns js p) "kept" (.d (Js sz js')) = ledF sz ls ns js' p := by rfl
section
variable {a p : Nat} {sz : List Nat} {ls : List (List Nat × Nat)} {st : LSt}
theorem Led.la (L : Led h a p sz ls st) : a < h.length := (List.getElem?_eq_some_iff.mp L.o).1
theorem Led.lp (L : Led h a p sz ls st) : p < h.length := (List.getElem?_eq_some_iff.mp L.p).1
theorem Led.upd (L : Led h a p sz ls st) (st' : LSt) : Led (upd h a p sz ls st') a p sz ls st' := by
  have := L.ne
  refine ⟨?_, ?_⟩
  · unfold Lw.upd
    rw [List.getElem?_set_self (by rw [List.length_set]; exact L.la)]
  · unfold Lw.upd
    rw [List.getElem?_set_ne this, List.getElem?_set_self L.lp]
theorem upd_upd (h : Hs) (ne : a ≠ p) (st st' : LSt) : upd (upd h a p sz ls st) a p sz ls st' = upd h a p sz ls st' := by
  unfold upd
  rw [List.set_comm _ _ ne, List.set_set, List.set_set]
theorem Led.self (L : Led h a p sz ls st) : Lw.upd h a p sz ls st = h := by
  unfold Lw.upd
  have e1 : h.set p (pastO sz st.past) = h := by
    apply List.ext_getElem?
    intro i
    by_cases c : p = i
    · subst c
      rw [List.getElem?_set_self L.lp, L.p]
    · rw [List.getElem?_set_ne c]
  rw [e1]
  apply List.ext_getElem?
  intro i
  by_cases c : a = i
  · subst c
    rw [List.getElem?_set_self L.la, L.o]
  · rw [List.getElem?_set_ne c]
theorem past_snoc (past : List (Str × List Str × List Rw)) (w : Str) (ns : List Str) (js : List Rw) : (past.map (pastD sz)).map W.d ++ [W.d (.tuple [.str w, Ns ns, Js sz js])] = ((past ++ [(w, ns, js)]).map (pastD sz)).map W.d := by
  rw [List.map_append, List.map_append]
  rfl
theorem e_change (hn : 2 ≤ n) (L : Led h a p sz ls st) (w : Str) (ns : List Str) (js : List Rw) (hp : st.past.length ≤ 1000) : callN T 100 n 27 [.r a, .d (.str w), .d (Ns ns), .d (Js sz js)] h = .ok (.d .none) (upd h a p sz ls ⟨ns, js, st.past ++ [(w, st.ns, st.js)]⟩) := by
  rw [call_r (fe := f27) (by omega) rfl rfl rfl]
  simp_arith [f27, f27_b, f27_0, f27_1, f27_2, L.f3, L.f4, L.f5]
  rw [mth_app L.p L.p (Nat.lt_of_le_of_lt (show _ ≤ 1000 by rw [List.length_map, List.length_map]; exact hp) (by decide)), past_snoc]
  have o1 : (h.set p (pastO sz (st.past ++ [(w, st.ns, st.js)])))[a]? = some (.ins "LeakLedger" (ledF sz ls st.ns st.js p)) := by
    rw [List.getElem?_set_ne (Ne.symm L.ne)]
    exact L.o
  simp_arith []
  rw [show Ob.lst (((st.past ++ [(w, st.ns, st.js)]).map (pastD sz)).map W.d) = pastO sz (st.past ++ [(w, st.ns, st.js)]) from rfl]
  rw [setFd_i o1 at_3 (show 5 < 900 by decide), putF_3]
  have o2 : ((h.set p (pastO sz (st.past ++ [(w, st.ns, st.js)]))).set a (.ins "LeakLedger" (ledF sz ls ns st.js p)))[a]? = some (.ins "LeakLedger" (ledF sz ls ns st.js p)) := by
    rw [List.getElem?_set_self (by rw [List.length_set]; exact L.la)]
  simp_arith []
  rw [setFd_i o2 at_4 (show 5 < 900 by decide), putF_4, List.set_set]
  simp_arith []
  rw [trim_same (by rw [List.length_set, List.length_set])]
  rfl
theorem kd_Ns (ns : List Str) (hs : ∀ s ∈ ns, PyData.strOk s = true) : kd 1 (Ns ns) = true := kd_tup fun x hx => by
  obtain ⟨s, hm, rfl⟩ := List.mem_map.mp hx
  exact kd_str (hs s hm)
theorem any_Ns (ns : List Str) (hs : ∀ s ∈ ns, PyData.strOk s = true) (x : Str) : ((ns.map PyData.str).any fun z => PyData.eqv z (.str x)) = decide (x ∈ ns) := by
  rw [List.any_map]
  cases c : decide (x ∈ ns) with
  | true =>
    rw [List.any_eq_true]
    refine ⟨x, of_decide_eq_true c, ?_⟩
    show PyData.eqv (.str x) (.str x) = true
    rw [PyData.eqv]
    simp
  | false =>
    rw [List.any_eq_false]
    intro s hm
    show ¬ PyData.eqv (.str s) (.str x) = true
    rw [PyData.eqv, beq_iff_eq]
    intro e
    rw [e] at hm
    exact (of_decide_eq_false c) hm
theorem Ns_snoc (ns : List Str) (x : Str) : PyData.tuple (ns.map PyData.str ++ [.str x]) = Ns (ns ++ [x]) := by
  unfold Ns
  rw [List.map_append]
  rfl
/-- what stands of a ledger's state -/
structure StOk (sz : List Nat) (st : LSt) : Prop where
  nm : ∀ s ∈ st.ns, PyData.strOk s = true
  nl : st.ns.length ≤ 90
  jo : ∀ rows ∈ st.js, Jt sz rows
  jl : st.js.length = st.ns.length
  pl : st.past.length ≤ 90
theorem StOk.jts (k : StOk sz st) : Jts sz st.js := ⟨k.jo, by have := k.jl; have := k.nl; omega⟩
theorem StOk.jts1 (k : StOk sz st) {rows : Rw} (hj : Jt sz rows) : Jts sz (st.js ++ [rows]) := ⟨fun r hr => by
  rcases List.mem_append.mp hr with hr | hr
  · exact k.jo r hr
  · rw [List.mem_singleton.mp hr]
    exact hj, by rw [List.length_append, List.length_cons, List.length_nil]; have := k.jl; have := k.nl; omega⟩
/-- tell -/
def tellR (sz : List Nat) (ls : List (List Nat × Nat)) (st : LSt) (x : Str) (rows : Rw) : Option Exn × LSt :=
  if x ∈ st.ns then (some ⟨"Taken", some ("name", .str x)⟩, st)
  else match overD sz (st.js ++ [rows]) ls with
    | d :: _ => (some ⟨"TooMuch", some ("lot", d)⟩, st)
    | [] => (none, ⟨st.ns ++ [x], st.js ++ [rows], st.past ++ [(("tell" : Str), st.ns, st.js)]⟩)
def exR (e : Option Exn) (w : W) (h : Hs) : Res W := match e with
  | some x => .ex x h
  | none => .ok w h
theorem cmp_inNs {ns : List Str} (hs : ∀ s ∈ ns, PyData.strOk s = true) {x : Str} (hx : PyData.strOk x = true) : cmpB .In (.d (.str x)) (.d (Ns ns)) h = some (decide (x ∈ ns)) := by
  rw [Ns, cmp_int (shp_s hx) (kd_shp (kd_Ns ns hs) (by omega)), any_Ns ns hs]
theorem cmp_ninNs {ns : List Str} (hs : ∀ s ∈ ns, PyData.strOk s = true) {x : Str} (hx : PyData.strOk x = true) : cmpB .NotIn (.d (.str x)) (.d (Ns ns)) h = some (!decide (x ∈ ns)) := by
  rw [Ns, cmp_nint (shp_s hx) (kd_shp (kd_Ns ns hs) (by omega)), any_Ns ns hs]
theorem e_tell (hn : 9 ≤ n) (hs : Sz sz) (L : Led h a p sz ls st) (cl : Cl h) (hl : Lims ls sz.length) (k : StOk sz st) (x : Str) (hx : PyData.strOk x = true) (nx : x.length ≤ 1000) (ok : okName x = true) (rows : Rw) (hj : Jt sz rows) :
    callN T 100 n 28 [.r a, .d (.str x), .d (J sz rows)] h = exR (tellR sz ls st x rows).1 (.d .none) (upd h a p sz ls (tellR sz ls st x rows).2) := by
  have nmx : Nm (.str x) true := by rw [← ok]; exact .s x nx
  have e1 := fun h => e_cname (h := h) (show 3 ≤ n - 1 by omega) nmx
  have e2 := e_cjoint (show 7 ≤ n - 1 by omega) hs L rows hj
  have e3 := e_over (show 8 ≤ n - 1 by omega) hs L cl hl rows (k.jts1 hj)
  have e4 := e_change (n := n - 1) (by omega) L "tell" (st.ns ++ [x]) (st.js ++ [rows]) (by have := k.pl; omega)
  rw [call_r (fe := f28) (by omega) rfl rfl rfl]
  simp_arith [f28, f28_b, f28_0, f28_1, f28_2, f28_3, f28_4, f28_5, e1, mclA_i L.o lm_1, e2, L.f3, L.f4, cmp_inNs k.nm hx, mclA_i L.o lm_2, e3, mclA_i L.o lm_3]
  unfold tellR
  by_cases c : x ∈ st.ns
  · rw [if_pos (decide_eq_true c), if_pos c]
    simp_arith []
    rw [trim_same rfl]
    show _ = Res.ex _ (upd h a p sz ls st)
    rw [L.self]
  · rw [if_neg (by rw [decide_eq_true_eq]; exact c), if_neg c]
    cases eo : overD sz (st.js ++ [rows]) ls with
    | cons d r =>
      simp_arith [eo, List.isEmpty_cons]
      rw [trim_same rfl]
      show _ = Res.ex _ (upd h a p sz ls st)
      rw [L.self]
    | nil =>
      simp_arith [eo, List.isEmpty_nil]
      rw [Ns, bin_addt (lim_of (by rw [List.length_map]; have := k.nl; simp only [List.length_cons, List.length_nil]; omega)), Ns_snoc]
      simp_arith [L.f4]
      rw [Js, bin_addt (lim_of (by rw [List.length_map]; have := k.nl; have := k.jl; simp only [List.length_cons, List.length_nil]; omega)), Js_snoc]
      simp_arith [e4]
      rw [trim_same (upd_len _ _ _ _ _ _)]
      rfl
end
end
/-! drop, undo, and what asks only -/
section
variable {n : Nat} {h : Hs}
theorem fnd_Ns {ns : List Str} {x : Str} (hx : x ∈ ns) : ∃ i, i < ns.length ∧ fndX (ns.map PyData.str) (.str x) = some i := by
  have : ((ns.map PyData.str).findIdx? fun z => PyData.eqv z (.str x)).isSome = true := by
    rw [List.findIdx?_isSome, List.any_map, List.any_eq_true]
    refine ⟨x, hx, ?_⟩
    show PyData.eqv (.str x) (.str x) = true
    rw [PyData.eqv]
    simp
  obtain ⟨i, e⟩ := Option.isSome_iff_exists.mp this
  have hi := (List.findIdx?_eq_some_iff_findIdx_eq.mp e).1
  rw [List.length_map] at hi
  exact ⟨i, hi, e⟩
def del {α : Type} (l : List α) (i : Nat) : List α := l.take i ++ l.drop (i + 1)
theorem del_len {α : Type} {l : List α} {i : Nat} (h : i < l.length) : (del l i).length + 1 = l.length := by
  unfold del
  rw [List.length_append, List.length_take, List.length_drop]
  omega
theorem del_map {α β : Type} (f : α → β) (l : List α) (i : Nat) : (del l i).map f = (l.map f).take i ++ (l.map f).drop (i + 1) := by
  unfold del
  rw [List.map_append, List.map_take, List.map_drop]
theorem del_mem {α : Type} {l : List α} {i : Nat} {x : α} (h : x ∈ del l i) : x ∈ l := by
  rcases List.mem_append.mp h with h | h
  · exact List.mem_of_mem_take h
  · exact List.mem_of_mem_drop h
section
variable {a p : Nat} {sz : List Nat} {ls : List (List Nat × Nat)} {st : LSt}
def idx (ns : List Str) (x : Str) : Nat := (fndX (ns.map PyData.str) (.str x)).getD 0
theorem idx_at {ns : List Str} {x : Str} (hx : x ∈ ns) : fndX (ns.map PyData.str) (.str x) = some (idx ns x) ∧ idx ns x < ns.length := by
  obtain ⟨i, hi, e⟩ := fnd_Ns hx
  unfold idx
  rw [e]
  exact ⟨rfl, hi⟩
def dropR (st : LSt) (x : Str) : Option Exn × LSt :=
  if x ∈ st.ns then (none, ⟨del st.ns (idx st.ns x), del st.js (idx st.ns x), st.past ++ [(("drop" : Str), st.ns, st.js)]⟩)
  else (some ⟨"Unknown", some ("name", .str x)⟩, st)
theorem e_drop (hn : 9 ≤ n) (L : Led h a p sz ls st) (k : StOk sz st) (x : Str) (hx : PyData.strOk x = true) (nx : x.length ≤ 1000) (ok : okName x = true) :
    callN T 100 n 29 [.r a, .d (.str x)] h = exR (dropR st x).1 (.d .none) (upd h a p sz ls (dropR st x).2) := by
  have nmx : Nm (.str x) true := by rw [← ok]; exact .s x nx
  have e1 := fun h => e_name (h := h) (show 2 ≤ n - 1 by omega) nmx
  have e4 := fun ns js => e_change (n := n - 1) (by omega) L "drop" ns js (by have := k.pl; omega)
  have hnl := k.nl
  have hjl := k.jl
  rw [call_r (fe := f29) (by omega) rfl rfl rfl]
  simp_arith [f29, f29_b, f29_0, f29_1, f29_2, e1, L.f3, L.f4, cmp_ninNs k.nm hx, mclA_i L.o lm_3]
  unfold dropR
  by_cases c : x ∈ st.ns
  · obtain ⟨ei, hi⟩ := idx_at c
    rw [if_neg (by rw [decide_eq_true c]; exact Bool.false_ne_true), if_pos c]
    rw [Ns, mth_indext (pz_shp_tup (n := 0) (fun x hm => by obtain ⟨s, hs', rfl⟩ := List.mem_map.mp hm; exact kd_str (k.nm s hs')) (by omega)) (shp_s hx) ei]
    simp_arith [L.f3, L.f4]
    rw [Ns, slc_tto _ (lim_of (by rw [List.length_map]; omega))]
    simp_arith [L.f3, L.f4]
    rw [Ns, slc_tfrom _ (idx st.ns x + 1) (by omega) (lim_of (by rw [List.length_map]; omega))]
    simp_arith [L.f3, L.f4]
    rw [bin_addt (lim_of (by rw [List.length_take, List.length_drop, List.length_map]; omega)), ← del_map]
    simp_arith [L.f3, L.f4]
    rw [Js, slc_tto _ (lim_of (by rw [List.length_map]; omega))]
    simp_arith [L.f3, L.f4]
    rw [Js, slc_tfrom _ (idx st.ns x + 1) (by omega) (lim_of (by rw [List.length_map]; omega))]
    simp_arith []
    rw [bin_addt (lim_of (by rw [List.length_take, List.length_drop, List.length_map]; omega)), ← del_map]
    simp_arith []
    rw [show PyData.tuple ((del st.ns (idx st.ns x)).map PyData.str) = Ns (del st.ns (idx st.ns x)) from rfl, show PyData.tuple ((del st.js (idx st.ns x)).map (J sz)) = Js sz (del st.js (idx st.ns x)) from rfl, mclA_i L.o lm_3, e4]
    simp_arith []
    rw [trim_same (upd_len _ _ _ _ _ _)]
    rfl
  · rw [if_pos (by rw [decide_eq_false c]; rfl), if_neg c]
    simp_arith []
    rw [trim_same rfl]
    show _ = Res.ex _ (upd h a p sz ls st)
    rw [L.self]
theorem e_undo_0 (hn : 2 ≤ n) (L : Led h a p sz ls st) (hp : st.past = []) : callN T 100 n 30 [.r a] h = .ex ⟨"NothingToUndo", none⟩ h := by
  rw [call_r (fe := f30) (by omega) rfl rfl rfl]
  have e1 := truR (h := h) (a := p) L.p
  rw [hp] at e1
  simp_arith [f30, f30_b, f30_0, f30_1, f30_2, L.f5, e1, List.isEmpty_nil]
  rw [trim_same rfl]
theorem e_undo_1 (hn : 2 ≤ n) (L : Led h a p sz ls st) (init : List (Str × List Str × List Rw)) (w : Str) (ns : List Str) (js : List Rw) (hp : st.past = init ++ [(w, ns, js)]) : callN T 100 n 30 [.r a] h = .ok (.d (.str w)) (upd h a p sz ls ⟨ns, js, init⟩) := by
  rw [call_r (fe := f30) (by omega) rfl rfl rfl]
  have pe : (st.past.map (pastD sz)).map W.d = (init.map (pastD sz)).map W.d ++ [W.d (.tuple [.str w, Ns ns, Js sz js])] := by
    rw [hp]
    exact (past_snoc init w ns js).symm
  have Lp : h[p]? = some (.lst ((init.map (pastD sz)).map W.d ++ [W.d (.tuple [.str w, Ns ns, Js sz js])])) := by
    rw [L.p]
    unfold pastO
    rw [pe]
  have e1 := truR (h := h) (a := p) Lp
  have z : ((init.map (pastD sz)).map W.d ++ [W.d (.tuple [.str w, Ns ns, Js sz js])]).isEmpty = false := by
    cases (init.map (pastD sz)).map W.d <;> rfl
  rw [z] at e1
  have o1 : (h.set p (.lst ((init.map (pastD sz)).map W.d)))[a]? = some (.ins "LeakLedger" (ledF sz ls st.ns st.js p)) := by
    rw [List.getElem?_set_ne (Ne.symm L.ne)]
    exact L.o
  have o2 : ((h.set p (.lst ((init.map (pastD sz)).map W.d))).set a (.ins "LeakLedger" (ledF sz ls ns st.js p)))[a]? = some (.ins "LeakLedger" (ledF sz ls ns st.js p)) := by
    rw [List.getElem?_set_self (by rw [List.length_set]; exact L.la)]
  simp_arith [f30, f30_b, f30_0, f30_1, f30_2, L.f5, e1, mth_pop0 Lp, setFd_i o1 at_3 (show 5 < 900 by decide), putF_3]
  simp_arith [setFd_i o2 at_4 (show 5 < 900 by decide), putF_4, List.set_set]
  rw [trim_same (by rw [List.length_set, List.length_set])]
  rfl
theorem e_joints (hn : 2 ≤ n) (L : Led h a p sz ls st) : callN T 100 n 31 [.r a] h = .ok (.d (Js sz st.js)) h := by
  rw [call_r (fe := f31) (by omega) rfl rfl rfl]
  simp_arith [f31, f31_b, f31_0, L.f4]
  rw [trim_same rfl]
theorem e_len (hn : 2 ≤ n) (L : Led h a p sz ls st) : callN T 100 n 24 [.r a] h = .ok (.d (.int st.ns.length)) h := by
  rw [call_r (fe := f24) (by omega) rfl rfl rfl]
  simp_arith [f24, f24_b, f24_0, L.f3, Ns, List.length_map]
  rw [trim_same rfl]
theorem e_lclass (hn : 8 ≤ n) (hs : Sz sz) (L : Led h a p sz ls st) (k : StOk sz st) (lot : List Nat) (hl : Lot lot sz.length) (hb : lot.length ≤ 1000) : callN T 100 n 32 [.r a, .d (N lot)] h = .ok (.d (cls sz st.js lot)) h := by
  rw [call_r (fe := f32) (by omega) rfl rfl rfl]
  have e1 := fun h => e_clot (h := h) (show 5 ≤ n - 1 by omega) lot sz.length hl hb
  have e2 := fun h => e_classes_by (h := h) (show 6 ≤ n - 1 by omega) sz hs st.js k.jts lot hl hb
  simp_arith [f32, f32_b, f32_0, f32_1, L.f1, L.f4]
  rw [show bifW .len false [.d (N sz)] h = .ok (.d (.int (sz.length : Nat))) h by rw [N, len_t, List.length_map]]
  simp_arith [e1, L.f1, L.f4, e2]
  rw [trim_same rfl]
theorem e_lclass9 (hn : 8 ≤ n) (hs : Sz sz) (L : Led h a p sz ls st) : callN T 100 n 32 [.r a, .d (N [9])] h = .ex ⟨"InvalidLot", none⟩ h := by
  rw [call_r (fe := f32) (by omega) rfl rfl rfl]
  have e1 := fun h => e_clot9 (h := h) (show 5 ≤ n - 1 by omega) sz.length (by have := hs.three; omega)
  simp_arith [f32, f32_b, f32_0, f32_1, L.f1, L.f4]
  rw [show bifW .len false [.d (N sz)] h = .ok (.d (.int (sz.length : Nat))) h by rw [N, len_t, List.length_map]]
  simp_arith [e1]
  rw [trim_same rfl]
theorem e_would (hn : 9 ≤ n) (hs : Sz sz) (L : Led h a p sz ls st) (cl : Cl h) (hl : Lims ls sz.length) (k : StOk sz st) (rows : Rw) (hj : Jt sz rows) : callN T 100 n 35 [.r a, .d (J sz rows)] h = .ok (.d (.tuple (overD sz (st.js ++ [rows]) ls))) h := by
  rw [call_r (fe := f35) (by omega) rfl rfl rfl]
  have e2 := e_cjoint (show 7 ≤ n - 1 by omega) hs L rows hj
  have e3 := e_over (show 8 ≤ n - 1 by omega) hs L cl hl rows (k.jts1 hj)
  simp_arith [f35, f35_b, f35_0, f35_1, mclA_i L.o lm_1, e2, mclA_i L.o lm_2, e3]
  rw [trim_same rfl]
theorem e_would_e (hn : 9 ≤ n) (hs : Sz sz) (L : Led h a p sz ls st) : callN T 100 n 35 [.r a, .d (.tuple [N sz, .tuple []])] h = .ex ⟨"InvalidJoint", none⟩ h := by
  rw [call_r (fe := f35) (by omega) rfl rfl rfl]
  have e2 := e_cjoint_e (h := h) (a := a) (show 7 ≤ n - 1 by omega) hs
  simp_arith [f35, f35_b, f35_0, f35_1, mclA_i L.o lm_1, e2]
  rw [trim_same rfl]
theorem e_tell_n (hn : 9 ≤ n) (L : Led h a p sz ls st) (x : D) (hx : Nm x false) (y : D) : callN T 100 n 28 [.r a, .d x, .d y] h = .ex ⟨"InvalidName", none⟩ h := by
  rw [call_r (fe := f28) (by omega) rfl rfl rfl]
  have e1 := fun h => e_cname (h := h) (show 3 ≤ n - 1 by omega) hx
  simp_arith [f28, f28_b, f28_0, e1]
  rw [trim_same rfl]
theorem e_tell_j (hn : 9 ≤ n) (L : Led h a p sz ls st) (x : D) (hx : Nm x true) : callN T 100 n 28 [.r a, .d x, .d .none] h = .ex ⟨"InvalidJoint", none⟩ h := by
  rw [call_r (fe := f28) (by omega) rfl rfl rfl]
  have e1 := fun h => e_cname (h := h) (show 3 ≤ n - 1 by omega) hx
  have e2 := e_cjoint_n (h := h) (a := a) (show 7 ≤ n - 1 by omega)
  simp_arith [f28, f28_b, f28_0, f28_1, e1, mclA_i L.o lm_1, e2]
  rw [trim_same rfl]
end
end
/-! rest, possible, twin, a new ledger -/
section
variable {n : Nat} {h : Hs}
theorem key_N (a : List Nat) : keyT (N a) = true := kd_key (n := 1) (kd_N a) (by omega)
theorem N_inj {a b : List Nat} (e : N a = N b) : a = b := by
  unfold N at e
  have := PyData.tuple.inj e
  exact (List.map_inj_right (f := fun k : Nat => PyData.int k) (fun a b hab => by injection hab with hab; exact Int.ofNat.inj hab)).mp this
theorem puts_new {α : Type} : ∀ (kvs acc : List (D × α)), (acc ++ kvs).Pairwise (fun a b => PyData.eqv a.1 b.1 = false) → puts acc kvs = acc ++ kvs
  | [], acc, _ => by rw [List.append_nil]; rfl
  | kv :: r, acc, h => by
    show puts (put acc kv.1 kv.2) r = _
    have h' := h
    rw [List.pairwise_append] at h'
    rw [put_none (fun g hg => h'.2.2 g hg kv List.mem_cons_self), puts_new r _ (by rw [List.append_assoc]; exact h), List.append_assoc]
    rfl
theorem pairs_L : ∀ ls : List (List Nat × Nat), pairs ((ls.map Lm).map W.d) = some (ls.map fun l => (N l.1, W.d (.int l.2)))
  | [] => rfl
  | l :: r => by
    show (pairs ((r.map Lm).map W.d)).map ((N l.1, W.d (.int l.2)) :: ·) = _
    rw [pairs_L r]
    rfl
theorem allV_L : ∀ ls : List (List Nat × Nat), allV datW (ls.map fun l => (N l.1, W.d (.int l.2))) = some (ls.map fun l => (N l.1, .int l.2))
  | [] => rfl
  | l :: r => by
    show (match datW (W.d (.int l.2)), allV datW (r.map fun l => (N l.1, W.d (.int l.2))) with
    | some x, some xs => some ((N l.1, x) :: xs)
    | _, _ => none) = _
    rw [allV_L r]
    rfl
def dictD (ls : List (List Nat × Nat)) : D := .dict (ls.map fun l => (N l.1, .int l.2))
theorem dict_L {m : Bool} {ls : List (List Nat × Nat)} (nd : (ls.map (·.1)).Nodup) (few : ls.length ≤ 1000) : bifW .dict false [.d (Lms ls)] h = .ok (.d (dictD ls)) h := by
  show (match sq (.d (Lms ls)) h with
    | some (_, xs) => (match pairs xs with
      | some kvs => if (kvs.all fun kv => keyT kv.1) = true ∧ kvs.length ≤ lim then mkd false (puts [] kvs) h else .no
      | none => .no)
    | none => .no) = _
  rw [show sq (.d (Lms ls)) h = some (true, (ls.map Lm).map W.d) from rfl]
  simp only [pairs_L]
  rw [if_pos ⟨by
    rw [List.all_map, List.all_eq_true]
    exact fun l _ => key_N l.1, by rw [List.length_map]; exact lim_of (by omega)⟩]
  rw [puts_new _ [] (by
    rw [List.nil_append, List.pairwise_map]
    rw [List.nodup_iff_pairwise_ne, List.pairwise_map] at nd
    refine nd.imp fun {a b} hab => ?_
    cases z : PyData.eqv (N a.1) (N b.1) with
    | true => exact absurd (N_inj ((kd_eqv (kd_N _) (kd_N _)).mp z)) hab
    | false => rfl), List.nil_append]
  unfold mkd
  rw [if_neg Bool.false_ne_true, allV_L]
  rfl
def lookL (ls : List (List Nat × Nat)) (lot : List Nat) : Option Nat := (ls.find? fun l => PyData.eqv (N l.1) (N lot)).map (·.2)
theorem dq_L (ls : List (List Nat × Nat)) : dq (.d (dictD ls)) h = some (ls.map fun l => (N l.1, W.d (.int l.2))) := by
  show some ((ls.map fun l => (N l.1, PyData.int l.2)).map fun kv => (kv.1, W.d kv.2)) = _
  rw [List.map_map]
  rfl
theorem look_L (ls : List (List Nat × Nat)) (lot : List Nat) : look (ls.map fun l => (N l.1, W.d (.int l.2))) (N lot) = (lookL ls lot).map fun k : Nat => W.d (.int k) := by
  unfold look lookL
  rw [List.find?_map, Option.map_map, Option.map_map]
  rfl
theorem in_L (ls : List (List Nat × Nat)) (lot : List Nat) : cmpB .In (.d (N lot)) (.d (dictD ls)) h = some (lookL ls lot).isSome := by
  show memW (.d (N lot)) (.d (dictD ls)) h = _
  unfold memW
  simp only [dq_L, key_N, if_true, look_L, Option.isSome_map]
theorem sub_L (ls : List (List Nat × Nat)) (lot : List Nat) (k : Nat) (e : lookL ls lot = some k) : subW (.d (dictD ls)) (.d (N lot)) h = .ok (.d (.int k)) h := by
  unfold subW
  simp only [dq_L, key_N, if_true, look_L, e, Option.map_some]
def restD (sz : List Nat) (ls : List (List Nat × Nat)) (js : List Rw) (lot : List Nat) : D := match lookL ls lot with
  | some k => .int ((k : Int) - ((clsT sz js lot).length : Nat))
  | none => .none
section
variable {a p : Nat} {sz : List Nat} {ls : List (List Nat × Nat)} {st : LSt}
theorem e_rest (hn : 9 ≤ n) (hs : Sz sz) (L : Led h a p sz ls st) (k : StOk sz st) (nd : (ls.map (·.1)).Nodup) (few : ls.length ≤ 1000) (lot : List Nat) (hl : Lot lot sz.length) (hb : lot.length ≤ 1000) : callN T 100 n 33 [.r a, .d (N lot)] h = .ok (.d (restD sz ls st.js lot)) h := by
  rw [call_r (fe := f33) (by omega) rfl rfl rfl]
  have e1 := e_lclass (show 8 ≤ n - 1 by omega) hs L k lot hl hb
  have e2 := dict_L (h := h) (m := false) nd few
  simp_arith [f33, f33_b, f33_0, f33_1, f33_2, L.f2, e2, mclA_i L.o lm_8, e1, in_L]
  unfold restD
  cases e : lookL ls lot with
  | some k =>
    simp_arith [Option.isSome_some, sub_L ls lot k e, cls_t]
    rw [trim_same rfl]
  | none =>
    simp_arith [Option.isSome_none]
    rw [trim_same rfl]
/-! the classes as lists of numbers -/
def leN (a b : List Nat) : Bool := PySem.W.dataLe false id (N a) (N b)
def clsN (sz : List Nat) (js : List Rw) (lot : List Nat) : List (List Nat) := ((grp ((ins sz).map (toldD sz js lot))).map (·.2)).mergeSort leN
theorem clsT_N (sz : List Nat) (js : List Rw) (lot : List Nat) : clsT sz js lot = (clsN sz js lot).map N := by
  unfold clsT clsN srt
  rw [List.map_mergeSort (f := N) (r := leN) (s := PySem.W.dataLe false id) fun a _ b _ => rfl, List.map_map]
  rfl
theorem addG_mem : ∀ (st : List (D × List Nat)) (key : D) (k x : Nat), (∃ g ∈ addG st key k, x ∈ g.2) ↔ (x = k ∨ ∃ g ∈ st, x ∈ g.2)
  | [], key, k, x => by simp [addG]
  | g :: r, key, k, x => by
    unfold addG
    by_cases c : PyData.eqv g.1 key = true
    · rw [if_pos c]
      simp only [List.mem_cons, exists_eq_or_imp, List.mem_append, List.not_mem_nil, or_false]
      constructor
      · rintro ((h | h) | h)
        · exact .inr (.inl h)
        · exact .inl h
        · exact .inr (.inr h)
      · rintro (h | h | h)
        · exact .inl (.inr h)
        · exact .inl (.inl h)
        · exact .inr h
    · rw [if_neg c]
      have ih := addG_mem r key k x
      simp only [List.mem_cons, exists_eq_or_imp]
      rw [ih]
      constructor
      · rintro (h | h | h)
        · exact .inr (.inl h)
        · exact .inl h
        · exact .inr (.inr h)
      · rintro (h | h | h)
        · exact .inr (.inl h)
        · exact .inl h
        · exact .inr (.inr h)
theorem fold_mem : ∀ (l : List (D × Nat)) (st : List (D × List Nat)) (x : Nat), (∃ g ∈ l.foldl (fun st p => addG st p.1 p.2) st, x ∈ g.2) ↔ ((∃ p ∈ l, p.2 = x) ∨ ∃ g ∈ st, x ∈ g.2)
  | [], st, x => by simp
  | p :: l, st, x => by
    rw [List.foldl_cons, fold_mem l, addG_mem]
    simp only [List.mem_cons, exists_eq_or_imp]
    constructor
    · rintro (h | h | h)
      · exact .inl (.inr h)
      · exact .inl (.inl h.symm)
      · exact .inr h
    · rintro ((h | h) | h)
      · exact .inr (.inl h.symm)
      · exact .inl h
      · exact .inr (.inr h)
theorem grp_mem (told : List D) (x : Nat) : (∃ g ∈ grp told, x ∈ g.2) ↔ x < told.length := by
  unfold grp
  rw [fold_mem]
  constructor
  · rintro (⟨p, hp, rfl⟩ | ⟨g, hg, _⟩)
    · have := List.mem_zipIdx_iff_getElem?.mp hp
      exact (List.getElem?_eq_some_iff.mp this).1
    · cases hg
  · intro h
    exact .inl ⟨(told[x], x), List.mem_zipIdx_iff_getElem?.mpr (List.getElem?_eq_getElem h), rfl⟩
theorem clsN_mem (sz : List Nat) (js : List Rw) (lot : List Nat) (x : Nat) : (∃ ps ∈ clsN sz js lot, x ∈ ps) ↔ x < (ins sz).length := by
  have z := grp_mem ((ins sz).map (toldD sz js lot)) x
  rw [List.length_map] at z
  rw [← z]
  unfold clsN
  constructor
  · rintro ⟨ps, hp, hx⟩
    have := (List.mergeSort_perm _ leN).mem_iff.mp hp
    obtain ⟨g, hg, rfl⟩ := List.mem_map.mp this
    exact ⟨g, hg, hx⟩
  · rintro ⟨g, hg, hx⟩
    exact ⟨g.2, (List.mergeSort_perm _ leN).mem_iff.mpr (List.mem_map.mpr ⟨g, hg, rfl⟩), hx⟩
def mineN (sz : List Nat) (js : List Rw) (lot : List Nat) (k : Nat) : List Nat := ((clsN sz js lot).filter fun ps => decide (k ∈ ps)).headD []
theorem mine_ok {sz : List Nat} {js : List Rw} {lot : List Nat} {k : Nat} (hk : k < (ins sz).length) : ∃ r, ((clsN sz js lot).filter fun ps => decide (k ∈ ps)) = mineN sz js lot k :: r ∧ ∀ x ∈ mineN sz js lot k, x < (ins sz).length := by
  obtain ⟨ps, h1, h2⟩ := (clsN_mem sz js lot k).mpr hk
  have hm : ps ∈ (clsN sz js lot).filter fun ps => decide (k ∈ ps) := List.mem_filter.mpr ⟨h1, decide_eq_true h2⟩
  unfold mineN
  cases e : (clsN sz js lot).filter fun ps => decide (k ∈ ps) with
  | nil => rw [e] at hm; cases hm
  | cons q r =>
    refine ⟨r, rfl, fun x hx => ?_⟩
    have hq : q ∈ (clsN sz js lot).filter fun ps => decide (k ∈ ps) := by rw [e]; exact List.mem_cons_self
    exact (clsN_mem sz js lot x).mp ⟨q, (List.mem_filter.mp hq).1, hx⟩
theorem in_N (k : Nat) (ps : List Nat) : cmpB .In (.d (.int k)) (.d (N ps)) h = some (decide (k ∈ ps)) := by
  rw [N, cmp_int (shp_int k) (kd_shp (kd_N ps) (by omega)), List.any_map]
  congr 1
  cases c : decide (k ∈ ps) with
  | true =>
    rw [List.any_eq_true]
    refine ⟨k, of_decide_eq_true c, ?_⟩
    show PyData.eqv (.int k) (.int k) = true
    rw [PyData.eqv]
    simp
  | false =>
    rw [List.any_eq_false]
    intro s hm
    show ¬ PyData.eqv (.int s) (.int k) = true
    rw [PyData.eqv, beq_iff_eq]
    intro e
    rw [Int.ofNat.inj e] at hm
    exact (of_decide_eq_false c) hm
def possD (sz : List Nat) (js : List Rw) (lot : List Nat) (k : Nat) : D := .tuple ((mineN sz js lot k).map fun x => N ((ins sz).getD x []))
theorem len_clsN (sz : List Nat) (js : List Rw) (lot : List Nat) : (clsN sz js lot).length ≤ (ins sz).length := by
  unfold clsN
  rw [List.length_mergeSort, List.length_map]
  have key : ∀ (l : List (D × Nat)) (st : List (D × List Nat)), (l.foldl (fun st p => addG st p.1 p.2) st).length ≤ st.length + l.length := by
    intro l
    induction l with
    | nil => intro st; exact Nat.le_refl _
    | cons p l ih =>
      intro st
      have := ih (addG st p.1 p.2)
      have := addG_len st p.1 p.2
      rw [List.foldl_cons, List.length_cons]
      omega
  have := key ((ins sz).map (toldD sz js lot)).zipIdx []
  rw [List.length_zipIdx, List.length_map] at this
  unfold grp
  simp at this
  exact this
theorem ins_at {sz : List Nat} {x : Nat} (hx : x < (ins sz).length) : ((ins sz).map N)[x]? = some (N ((ins sz).getD x [])) := by
  rw [List.getElem?_map, List.getElem?_eq_getElem hx, List.getD_eq_getElem?_getD, List.getElem?_eq_getElem hx]
  rfl
theorem e_poss (hn : 9 ≤ n) (hs : Sz sz) (L : Led h a p sz ls st) (k : StOk sz st) (lot : List Nat) (hl : Lot lot sz.length) (hb : lot.length ≤ 1000) (inp : List Nat) (hi : inp ∈ ins sz) (few : (mineN sz st.js lot (place sz inp)).length ≤ 1000) : callN T 100 n 34 [.r a, .d (N lot), .d (N inp)] h = .ok (.d (possD sz st.js lot (place sz inp))) h := by
  rw [call_r (fe := f34) (by omega) rfl rfl rfl]
  have e1 := e_lclass (show 8 ≤ n - 1 by omega) hs L k lot hl hb
  have e2 := fun h => e_cinp (h := h) (show 5 ≤ n - 1 by omega) sz inp hs hi
  have e3 := fun h => e_place (h := h) (show 2 ≤ n - 1 by omega) sz inp hs.le
  have e4 := fun h => e_inputs (h := h) (show 2 ≤ n - 1 by omega) sz hs
  have hcl := len_clsN sz st.js lot
  have hc := hs.len
  obtain ⟨r, em, hm⟩ := mine_ok (js := st.js) (lot := lot) (place_lt hi)
  simp_arith [f34, f34_b, f34_0, f34_1, f34_2, f34_3, f34_4, mclA_i L.o lm_8, e1, L.f1, e2, e3, e4]
  rw [lc_map (h1 := h) (mineN sz st.js lot (place sz inp)) (fun k : Nat => .one (.d (.int k))) (fun x => N ((ins sz).getD x []))
    (by
      rw [cls_t, clsT_N]
      simp_arith []
      rw [lc_filter (h1 := h) (clsN sz st.js lot) (fun ps => .one (.d (N ps))) (fun ps => decide (place sz inp ∈ ps)) N (by simp_arith []; rw [wd_map]) (lim_of (by omega)) (fun ps hp => by
        simp_arith [lcT, in_N]
        cases decide (place sz inp ∈ ps) <;> simp_arith [])]
      rw [em]
      simp_arith []
      rw [N, src_t, wd_map])
    (lim_of (by omega))
    (fun x hx => by
      simp_arith [lcT, sub_lst (ins_at (hm x hx))])]
  simp_arith []
  rw [tup_l (lim_of (by rw [List.length_map]; omega))]
  simp_arith []
  rw [trim_same rfl]
  rfl
theorem e_poss9 (hn : 9 ≤ n) (hs : Sz sz) (L : Led h a p sz ls st) (k : StOk sz st) : callN T 100 n 34 [.r a, .d (N []), .d (N (List.replicate sz.length 9))] h = .ex ⟨"InvalidInputs", none⟩ h := by
  rw [call_r (fe := f34) (by omega) rfl rfl rfl]
  have e1 := e_lclass (show 8 ≤ n - 1 by omega) hs L k [] ⟨(fun _ h => by cases h), fun k hk => by simp at hk⟩ (by decide)
  have e2 := fun h => e_cinp9 (h := h) (show 5 ≤ n - 1 by omega) sz hs
  simp_arith [f34, f34_b, f34_0, f34_1, mclA_i L.o lm_8, e1, L.f1, e2]
  rw [trim_same rfl]
end
end
/-! a new ledger, a twin -/
section
variable {n : Nat} {h : Hs}
theorem setFd_t {att : Str → Str → Bool} {c f : Str} {fs : List (Str × W)} {v : W} {t : Hs} (ha : att c f = true) (l : fs.length < 900) : setFd att (.r h.length) f v (h ++ (.ins c fs :: t)) = some (h ++ (.ins c (putF fs f v) :: t)) := by
  rw [setFd_i (c := c) (fs := fs) (by rw [get_at0]; rfl) ha l, set_at0]
  rfl
section
variable {x1 x2 x3 x4 x5 : W}
theorem pf_1 : putF ([] : List (Str × W)) "sizes" x1 = ([("sizes", x1)] : List (Str × W)) := rfl
theorem pf_2 : putF [(("sizes" : Str), x1)] "limits" x2 = ([("sizes", x1), ("limits", x2)] : List (Str × W)) := rfl
theorem pf_3 : putF [(("sizes" : Str), x1), ("limits", x2)] "names" x3 = ([("sizes", x1), ("limits", x2), ("names", x3)] : List (Str × W)) := rfl
theorem pf_4 : putF [(("sizes" : Str), x1), ("limits", x2), ("names", x3)] "kept" x4 = ([("sizes", x1), ("limits", x2), ("names", x3), ("kept", x4)] : List (Str × W)) := rfl
theorem pf_5 : putF [(("sizes" : Str), x1), ("limits", x2), ("names", x3), ("kept", x4)] "past" x5 = ([("sizes", x1), ("limits", x2), ("names", x3), ("kept", x4), ("past", x5)] : List (Str × W)) := rfl
end
theorem len_N (a : List Nat) {m : Bool} : bifW .len m [.d (N a)] h = .ok (.d (.int (a.length : Nat))) h := by rw [N, len_t, List.length_map]
theorem trim_led (sz : List Nat) (ls : List (List Nat × Nat)) (ns : List Str) (js : List Rw) (t : Hs) : trim (h.length + 1) (h ++ (ledO sz ls ns js (h.length + 1) :: t)) = h ++ (ledO sz ls ns js (h.length + 1) :: t) := by
  unfold trim
  rw [if_neg]
  unfold clean
  rw [show h ++ (ledO sz ls ns js (h.length + 1) :: t) = (h ++ [ledO sz ls ns js (h.length + 1)]) ++ t by simp, List.take_left' (by rw [List.length_append]; rfl), List.all_append]
  have : (([ledO sz ls ns js (h.length + 1)] : Hs).all (Ob.ltb (h.length + 1))) = false := by
    show (Ob.ltb (h.length + 1) (ledO sz ls ns js (h.length + 1)) && true) = false
    unfold ledO ledF Ob.ltb
    simp [W.ltb]
  rw [this, Bool.and_false]
  exact Bool.false_ne_true
theorem e_init (hn : 7 ≤ n) (sz : List Nat) (hs : Sz sz) (ls : List (List Nat × Nat)) (hl : Lims ls sz.length) : callN T 100 n 23 [.r h.length, .d (N sz), .d (Lms ls)] (h ++ [.ins "LeakLedger" []]) = .ok (.d .none) (h ++ [ledO sz ls [] [] (h.length + 1), .lst []]) := by
  rw [call_r (fe := f23) (by omega) rfl rfl rfl]
  have e1 := fun h => e_sizes (h := h) (show 4 ≤ n - 1 by omega) sz hs
  have e2 := fun h => e_lims (h := h) (show 6 ≤ n - 1 by omega) ls sz.length hl
  have l0 : ∀ t : Hs, (h ++ t).length = h.length + t.length := fun t => List.length_append
  simp_arith [f23, f23_b, f23_0, f23_1, f23_2, f23_3, f23_4, f23_5, f23_6, e1, cn6, len_N, e2]
  rw [setFd_t at_1 (by decide), pf_1]
  simp_arith []
  rw [setFd_t at_2 (by simp), pf_2]
  simp_arith []
  rw [setFd_t at_3 (by simp), pf_3]
  simp_arith []
  rw [setFd_t at_4 (by simp), pf_4]
  simp_arith [List.append_assoc]
  rw [setFd_t at_5 (by simp), pf_5]
  simp_arith [l0]
  exact congrArg (Res.ok (W.d PyData.none)) (trim_led sz ls [] [] [.lst []])
theorem e_sizes1 (hn : 2 ≤ n) : callN T 100 n 6 [.d (N [1]), .d (.int 6)] h = .ok (.d (.bool false)) h := by
  rw [call_d (fe := f6) (by omega) rfl rfl rfl]
  simp_arith [f6, f6_b, f6_0, N, cn2, cn4]
theorem e_init_a (hn : 7 ≤ n) (x : D) (h' : Hs) (a : Nat) : callN T 100 n 23 [.r a, .d (N [1]), .d x] h' = .ex ⟨"InvalidJoint", none⟩ h' := by
  rw [call_r (fe := f23) (by omega) rfl rfl rfl]
  have e1 := fun h => e_sizes1 (h := h) (show 2 ≤ n - 1 by omega)
  simp_arith [f23, f23_b, f23_0, e1, cn6]
  rw [trim_same rfl]
theorem e_init_b (hn : 7 ≤ n) (sz : List Nat) (hs : Sz sz) (ls : List (List Nat × Nat)) (h' : Hs) (a : Nat) (hb : ∀ h, callN T 100 (n - 1) 21 [.d (Lms ls), .d (.int sz.length)] h = .ok (.d (.bool false)) h) : callN T 100 n 23 [.r a, .d (N sz), .d (Lms ls)] h' = .ex ⟨"InvalidLimits", none⟩ h' := by
  rw [call_r (fe := f23) (by omega) rfl rfl rfl]
  have e1 := fun h => e_sizes (h := h) (show 4 ≤ n - 1 by omega) sz hs
  simp_arith [f23, f23_b, f23_0, f23_1, e1, cn6, len_N, hb]
  rw [trim_same rfl]
theorem mkI_0 (g : Nat → List W → Hs → Res W) (ws : List W) : mkI T g 0 ws h = mkG "LeakLedger" (g 23) ws h := rfl
theorem mkG_ok {c : Str} {g : List W → Hs → Res W} {ws : List W} {h1 : Hs} (e : g (.r h.length :: ws) (h ++ [.ins c []]) = .ok (.d .none) h1) : mkG c g ws h = .ok (.r h.length) h1 := by
  unfold mkG
  rw [e]
  rfl
theorem mkG_ex {c : Str} {g : List W → Hs → Res W} {ws : List W} {x : Exn} (cl : Cl h) (e : g (.r h.length :: ws) (h ++ [Ob.ins c []]) = .ex x (h ++ [Ob.ins c []])) : mkG c g ws h = .ex x h := by
  unfold mkG
  rw [e]
  show (if clean h.length (h ++ [Ob.ins c []]) = true then Res.ex x ((h ++ [Ob.ins c []]).take h.length) else .no) = _
  rw [if_pos (by unfold clean; rw [List.take_left]; exact cl), List.take_left]
theorem e_new (hn : 7 ≤ n) (sz : List Nat) (hs : Sz sz) (ls : List (List Nat × Nat)) (hl : Lims ls sz.length) : mkI T (callN T 100 n) 0 [.d (N sz), .d (Lms ls)] h = .ok (.r h.length) (h ++ [ledO sz ls [] [] (h.length + 1), .lst []]) := by
  rw [mkI_0]
  exact mkG_ok (e_init hn sz hs ls hl)
theorem e_new_a (hn : 7 ≤ n) (cl : Cl h) (x : D) : mkI T (callN T 100 n) 0 [.d (N [1]), .d x] h = .ex ⟨"InvalidJoint", none⟩ h := by
  rw [mkI_0]
  exact mkG_ex cl (e_init_a hn x _ _)
theorem e_new_b (hn : 7 ≤ n) (cl : Cl h) (sz : List Nat) (hs : Sz sz) : mkI T (callN T 100 n) 0 [.d (N sz), .d (Lms [([0], 0)])] h = .ex ⟨"InvalidLimits", none⟩ h := by
  rw [mkI_0]
  exact mkG_ex cl (e_init_b hn sz hs _ _ _ fun h => e_lims_a (by omega) _ (by have := hs.two; omega))
theorem e_new_c (hn : 7 ≤ n) (cl : Cl h) (sz : List Nat) (hs : Sz sz) : mkI T (callN T 100 n) 0 [.d (N sz), .d (Lms [([1], 2), ([0], 2)])] h = .ex ⟨"InvalidLimits", none⟩ h := by
  rw [mkI_0]
  exact mkG_ex cl (e_init_b hn sz hs _ _ _ fun h => e_lims_b (by omega) _ (by have := hs.two; omega))
section
variable {a p : Nat} {sz : List Nat} {ls : List (List Nat × Nat)} {st : LSt}
theorem lstm_r {q : Nat} {ws : List W} (e : h[q]? = some (.lst ws)) (l : ws.length ≤ lim) : bifW .list true [.r q] h = .ok (.r h.length) (h ++ [.lst ws]) := by
  unfold bifW sq
  simp only [e]
  exact mkl_m l
theorem e_twin (hn : 9 ≤ n) (hs : Sz sz) (L : Led h a p sz ls st) (cl : Cl h) (hl : Lims ls sz.length) (hp : st.past.length ≤ 1000) : callN T 100 n 36 [.r a] h = .ok (.r h.length) (h ++ [ledO sz ls st.ns st.js (h.length + 2), .lst [], pastO sz st.past]) := by
  rw [call_r (fe := f36) (by omega) rfl rfl rfl]
  have e1 := e_new (h := h) (show 7 ≤ n - 2 by omega) sz hs ls hl
  have l0 : ∀ t : Hs, (h ++ t).length = h.length + t.length := fun t => List.length_append
  simp_arith [f36, f36_b, f36_0, f36_1, f36_2, f36_3, f36_4, L.f1, L.f2, e1]
  have L1 := L.app [ledO sz ls [] [] (h.length + 1), .lst []]
  simp_arith [L1.f3]
  rw [ledO, setFd_t (fs := ledF sz ls [] [] (h.length + 1)) at_3 (show 5 < 900 by decide), putF_3]
  have L2 := L.app [.ins "LeakLedger" (ledF sz ls st.ns [] (h.length + 1)), .lst []]
  simp_arith [L2.f4]
  rw [setFd_t (fs := ledF sz ls st.ns [] (h.length + 1)) at_4 (show 5 < 900 by decide), putF_4]
  have L3 := L.app [.ins "LeakLedger" (ledF sz ls st.ns st.js (h.length + 1)), .lst []]
  simp_arith [L3.f5]
  rw [lstm_r L3.p (lim_of (by rw [List.length_map, List.length_map]; omega))]
  simp_arith [List.append_assoc, l0]
  rw [setFd_t (fs := ledF sz ls st.ns st.js (h.length + 1)) at_5 (show 5 < 900 by decide)]
  rfl
end
end
/-! a step, done and due -/
section
variable {n : Nat} {h : Hs}
theorem sb_0 : T.sb "InvalidName" "InvalidName" = some true := by rfl
theorem sb_1 : T.sb "InvalidJoint" "InvalidName" = some false := by rfl
theorem sb_2 : T.sb "InvalidJoint" "InvalidJoint" = some true := by rfl
theorem sb_3 : T.sb "Taken" "InvalidName" = some false := by rfl
theorem sb_4 : T.sb "Taken" "InvalidJoint" = some false := by rfl
theorem sb_5 : T.sb "Taken" "Taken" = some true := by rfl
theorem sb_6 : T.sb "Unknown" "InvalidName" = some false := by rfl
theorem sb_7 : T.sb "Unknown" "InvalidJoint" = some false := by rfl
theorem sb_8 : T.sb "Unknown" "Taken" = some false := by rfl
theorem sb_9 : T.sb "Unknown" "Unknown" = some true := by rfl
theorem sb_10 : T.sb "TooMuch" "InvalidName" = some false := by rfl
theorem sb_11 : T.sb "TooMuch" "InvalidJoint" = some false := by rfl
theorem sb_12 : T.sb "TooMuch" "Taken" = some false := by rfl
theorem sb_13 : T.sb "TooMuch" "Unknown" = some false := by rfl
theorem sb_14 : T.sb "TooMuch" "TooMuch" = some true := by rfl
theorem sb_15 : T.sb "NothingToUndo" "InvalidName" = some false := by rfl
theorem sb_16 : T.sb "NothingToUndo" "InvalidJoint" = some false := by rfl
theorem sb_17 : T.sb "NothingToUndo" "Taken" = some false := by rfl
theorem sb_18 : T.sb "NothingToUndo" "Unknown" = some false := by rfl
theorem sb_19 : T.sb "NothingToUndo" "TooMuch" = some false := by rfl
theorem sb_20 : T.sb "NothingToUndo" "NothingToUndo" = some true := by rfl
theorem sb_22 : T.sb "InvalidLimits" "InvalidJoint" = some false := by rfl
theorem sb_23 : T.sb "InvalidLimits" "InvalidLimits" = some true := by rfl
theorem sb_24 : T.sb "InvalidLot" "InvalidJoint" = some false := by rfl
theorem sb_25 : T.sb "InvalidLot" "InvalidLimits" = some false := by rfl
theorem sb_26 : T.sb "InvalidLot" "InvalidLot" = some true := by rfl
theorem sb_27 : T.sb "InvalidInputs" "InvalidJoint" = some false := by rfl
theorem sb_28 : T.sb "InvalidInputs" "InvalidLimits" = some false := by rfl
theorem sb_29 : T.sb "InvalidInputs" "InvalidLot" = some false := by rfl
theorem sb_30 : T.sb "InvalidInputs" "InvalidInputs" = some true := by rfl
theorem nox_nx (e : Rf.Env) : (Out.nx e h).nox = .nx e h := rfl
theorem gone_nx (e : Rf.Env) (i : Nat) : (Out.nx e h).gone i = .nx (e.set i none) h := rfl
theorem exn_w (c f : Str) (d : D) : Exn.w ⟨c, some (f, d)⟩ = some (.x f d) := rfl
theorem cs_tt : cmpB .Eq (.d (.str "tell")) (.d (.str "tell")) h = some true := by rw [cmp_eqs (by decide +kernel) (by decide +kernel)]; rfl
theorem cs_dt : cmpB .Eq (.d (.str "drop")) (.d (.str "tell")) h = some false := by rw [cmp_eqs (by decide +kernel) (by decide +kernel)]; rfl
theorem cs_ut : cmpB .Eq (.d (.str "undo")) (.d (.str "tell")) h = some false := by rw [cmp_eqs (by decide +kernel) (by decide +kernel)]; rfl
theorem cs_dd : cmpB .Eq (.d (.str "drop")) (.d (.str "drop")) h = some true := by rw [cmp_eqs (by decide +kernel) (by decide +kernel)]; rfl
theorem cs_ud : cmpB .Eq (.d (.str "undo")) (.d (.str "drop")) h = some false := by rw [cmp_eqs (by decide +kernel) (by decide +kernel)]; rfl
theorem cs_td : cmpB .Eq (.d (.str "tell")) (.d (.str "drop")) h = some false := by rw [cmp_eqs (by decide +kernel) (by decide +kernel)]; rfl
theorem cs_uu : cmpB .Eq (.d (.str "undo")) (.d (.str "undo")) h = some true := by rw [cmp_eqs (by decide +kernel) (by decide +kernel)]; rfl
theorem cs_tu : cmpB .Eq (.d (.str "tell")) (.d (.str "undo")) h = some false := by rw [cmp_eqs (by decide +kernel) (by decide +kernel)]; rfl
theorem cs_du : cmpB .Eq (.d (.str "drop")) (.d (.str "undo")) h = some false := by rw [cmp_eqs (by decide +kernel) (by decide +kernel)]; rfl
inductive Stp where
  | tell (x : Str) (rows : Rw)
  | drop (x : Str)
  | undo
def Stp.D (sz : List Nat) : Stp → D
  | .tell x rows => .tuple [.str "tell", .str x, J sz rows]
  | .drop x => .tuple [.str "drop", .str x]
  | .undo => .tuple [.str "undo"]
structure NmOk (x : Str) : Prop where
  ok : PyData.strOk x = true
  few : x.length ≤ 1000
  nm : okName x = true
def Stp.Ok (sz : List Nat) : Stp → Prop
  | .tell x rows => NmOk x ∧ Jt sz rows
  | .drop x => NmOk x
  | .undo => True
def doneR (sz : List Nat) (ls : List (List Nat × Nat)) (st : LSt) : Stp → D × LSt
  | .tell x rows => if x ∈ st.ns then (.tuple [.str "taken", .str x], st)
    else (match overD sz (st.js ++ [rows]) ls with
    | d :: _ => (.tuple [.str "much", d], st)
    | [] => (.list [.none], ⟨st.ns ++ [x], st.js ++ [rows], st.past ++ [(("tell" : Str), st.ns, st.js)]⟩))
  | .drop x => if x ∈ st.ns then (.list [.none], ⟨del st.ns (idx st.ns x), del st.js (idx st.ns x), st.past ++ [(("drop" : Str), st.ns, st.js)]⟩)
    else (.tuple [.str "unknown", .str x], st)
  | .undo => match st.past.getLast? with
    | none => (.tuple [.str "nothing"], st)
    | some e => (.list [.str e.1], ⟨e.2.1, e.2.2, st.past.dropLast⟩)
section
variable {a p : Nat} {sz : List Nat} {ls : List (List Nat × Nat)} {st : LSt}
theorem e_done (hn : 11 ≤ n) (hs : Sz sz) (L : Led h a p sz ls st) (cl : Cl h) (hl : Lims ls sz.length) (k : StOk sz st) (s : Stp) (so : s.Ok sz) :
    callN T 100 n 47 [.r a, .d (s.D sz)] h = .ok (.d (doneR sz ls st s).1) (upd h a p sz ls (doneR sz ls st s).2) := by
  rw [call_r (fe := f47) (by omega) rfl rfl rfl]
  cases s with
  | tell x rows =>
    obtain ⟨⟨h1, h2, h3⟩, hj⟩ := so
    have e1 := e_tell (n := n - 1) (by omega) hs L cl hl k x h1 h2 h3 rows hj
    unfold tellR at e1
    simp_arith [f47, f47_b, f47_0, f47_1, f47_2, Stp.D, cs_tt, mclA_i L.o lm_4, e1]
    unfold doneR
    by_cases c : x ∈ st.ns
    · simp_arith [c, exR, sb_0, sb_1, sb_2, sb_3, sb_4, sb_5, sb_6, sb_7, sb_8, sb_9, sb_10, sb_11, sb_12, sb_13, sb_14, sb_15, sb_16, sb_17, sb_18, sb_19, sb_20, sb_22, sb_23, sb_24, sb_25, sb_26, sb_27, sb_28, sb_29, sb_30, exn_w, gone_nx, nox_nx]
      rw [trim_same (upd_len _ _ _ _ _ _)]
    · cases eo : overD sz (st.js ++ [rows]) ls with
      | cons d r =>
        simp_arith [c, eo, exR, sb_0, sb_1, sb_2, sb_3, sb_4, sb_5, sb_6, sb_7, sb_8, sb_9, sb_10, sb_11, sb_12, sb_13, sb_14, sb_15, sb_16, sb_17, sb_18, sb_19, sb_20, sb_22, sb_23, sb_24, sb_25, sb_26, sb_27, sb_28, sb_29, sb_30, exn_w, gone_nx, nox_nx]
        rw [trim_same (upd_len _ _ _ _ _ _)]
      | nil =>
        simp_arith [c, eo, exR]
        rw [trim_same (upd_len _ _ _ _ _ _)]
  | drop x =>
    obtain ⟨h1, h2, h3⟩ := so
    have e1 := e_drop (n := n - 1) (by omega) L k x h1 h2 h3
    unfold dropR at e1
    simp_arith [f47, f47_b, f47_0, f47_1, f47_2, Stp.D, cs_dt, cs_dd, mclA_i L.o lm_5, e1]
    unfold doneR
    by_cases c : x ∈ st.ns
    · simp_arith [c, exR]
      rw [trim_same (upd_len _ _ _ _ _ _)]
    · simp_arith [c, exR, sb_0, sb_1, sb_2, sb_3, sb_4, sb_5, sb_6, sb_7, sb_8, sb_9, sb_10, sb_11, sb_12, sb_13, sb_14, sb_15, sb_16, sb_17, sb_18, sb_19, sb_20, sb_22, sb_23, sb_24, sb_25, sb_26, sb_27, sb_28, sb_29, sb_30, exn_w, gone_nx, nox_nx]
      rw [trim_same (upd_len _ _ _ _ _ _)]
  | undo =>
    unfold doneR
    cases e : st.past.getLast? with
    | none =>
      have hp : st.past = [] := List.getLast?_eq_none_iff.mp e
      have e1 := e_undo_0 (n := n - 1) (by omega) L hp
      simp_arith [f47, f47_b, f47_0, f47_1, f47_2, Stp.D, cs_ut, cs_ud, mclA_i L.o lm_6, e1, sb_0, sb_1, sb_2, sb_3, sb_4, sb_5, sb_6, sb_7, sb_8, sb_9, sb_10, sb_11, sb_12, sb_13, sb_14, sb_15, sb_16, sb_17, sb_18, sb_19, sb_20, sb_22, sb_23, sb_24, sb_25, sb_26, sb_27, sb_28, sb_29, sb_30, nox_nx]
      rw [trim_same rfl]
      show _ = Res.ok _ (upd h a p sz ls st)
      rw [L.self]
    | some q =>
      have hp : st.past = st.past.dropLast ++ [q] := by
        have hne : st.past ≠ [] := fun z => by rw [z] at e; cases e
        have z := List.dropLast_concat_getLast hne
        rw [List.getLast?_eq_some_getLast hne] at e
        rw [← Option.some.inj e]
        exact z.symm
      have e1 := e_undo_1 (n := n - 1) (by omega) L st.past.dropLast q.1 q.2.1 q.2.2 hp
      simp_arith [f47, f47_b, f47_0, f47_1, f47_2, Stp.D, cs_ut, cs_ud, mclA_i L.o lm_6, e1]
      rw [trim_same (upd_len _ _ _ _ _ _)]
theorem e_done_n (hn : 11 ≤ n) (L : Led h a p sz ls st) (x : D) (hx : Nm x false) : callN T 100 n 47 [.r a, .d (.tuple [.str "tell", x, .none])] h = .ok (.d (.tuple [.str "name"])) h := by
  rw [call_r (fe := f47) (by omega) rfl rfl rfl]
  have e1 := e_tell_n (n := n - 1) (by omega) L x hx .none
  simp_arith [f47, f47_b, f47_0, f47_1, f47_2, cs_tt, mclA_i L.o lm_4, e1, sb_0, sb_1, sb_2, sb_3, sb_4, sb_5, sb_6, sb_7, sb_8, sb_9, sb_10, sb_11, sb_12, sb_13, sb_14, sb_15, sb_16, sb_17, sb_18, sb_19, sb_20, sb_22, sb_23, sb_24, sb_25, sb_26, sb_27, sb_28, sb_29, sb_30, nox_nx]
  rw [trim_same rfl]
theorem e_done_j (hn : 11 ≤ n) (L : Led h a p sz ls st) (x : D) (hx : Nm x true) : callN T 100 n 47 [.r a, .d (.tuple [.str "tell", x, .none])] h = .ok (.d (.tuple [.str "joint"])) h := by
  rw [call_r (fe := f47) (by omega) rfl rfl rfl]
  have e1 := e_tell_j (n := n - 1) (by omega) L x hx
  simp_arith [f47, f47_b, f47_0, f47_1, f47_2, cs_tt, mclA_i L.o lm_4, e1, sb_0, sb_1, sb_2, sb_3, sb_4, sb_5, sb_6, sb_7, sb_8, sb_9, sb_10, sb_11, sb_12, sb_13, sb_14, sb_15, sb_16, sb_17, sb_18, sb_19, sb_20, sb_22, sb_23, sb_24, sb_25, sb_26, sb_27, sb_28, sb_29, sb_30, nox_nx]
  rw [trim_same rfl]
end
end
/-! a step's due -/
section
variable {n : Nat} {h : Hs}
def Dp (n : Nat) (x : D) : Prop := x.canLay0 = true ∧ x.depth ≤ n
theorem Dp.all {n : Nat} : ∀ {xs : List D}, (∀ x ∈ xs, Dp n x) → PyData.canLayAll0 xs = true ∧ PyData.depthAll xs ≤ n
  | [], _ => ⟨by rw [PyData.canLayAll0], by rw [PyData.depthAll]; omega⟩
  | x :: xs, h => by
    have z1 := h x List.mem_cons_self
    have z2 := Dp.all fun y hy => h y (List.mem_cons_of_mem _ hy)
    exact ⟨by rw [PyData.canLayAll0, z1.1, z2.1]; rfl, by rw [PyData.depthAll]; have := z1.2; omega⟩
theorem Dp.tup {n : Nat} {xs : List D} (h : ∀ x ∈ xs, Dp n x) : Dp (n + 1) (.tuple xs) := by
  have z := Dp.all h
  exact ⟨by rw [PyData.canLay0]; exact z.1, by rw [PyData.depth]; omega⟩
theorem Dp.lst {n : Nat} {xs : List D} (h : ∀ x ∈ xs, Dp n x) : Dp (n + 1) (.list xs) := by
  have z := Dp.all h
  exact ⟨by rw [PyData.canLay0]; exact z.1, by rw [PyData.depth]; omega⟩
theorem Dp.kd {n : Nat} {x : D} (h : kd n x = true) : Dp n x := kd_lay h
theorem Dp.mono {n m : Nat} {x : D} (l : n ≤ m) (h : Dp n x) : Dp m x := ⟨h.1, Nat.le_trans h.2 l⟩
theorem Dp.shp {n : Nat} {x : D} (h : Dp n x) (l : n ≤ 64) : shp x = true := shp_of h.1 (Nat.le_trans h.2 l)
theorem kd_Ro (r : List (Option Nat)) : kd 1 (Ro r) = true := kd_tup fun x hx => by
  obtain ⟨o, _, rfl⟩ := List.mem_map.mp hx
  exact kd_O o
theorem kd_J (sz : List Nat) (rows : Rw) : kd 3 (J sz rows) = true := kd_tup fun x hx => by
  rcases List.mem_cons.mp hx with rfl | hx
  · exact kd_mono (by omega) (kd_N sz)
  · rw [List.mem_singleton.mp hx]
    exact kd_tup fun y hy => by
      obtain ⟨r, _, rfl⟩ := List.mem_map.mp hy
      exact kd_Ro r
def Ln (ns : List Str) : D := .list (ns.map PyData.str)
def pastL (sz : List Nat) (e : Str × List Str × List Rw) : D := .tuple [.str e.1, Ln e.2.1, Jl sz e.2.2]
def Lp (sz : List Nat) (past : List (Str × List Str × List Rw)) : D := .list (past.map (pastL sz))
def staO (sz : List Nat) (st : LSt) : Ob := .lst [.d (Ln st.ns), .d (Jl sz st.js), .d (Lp sz st.past)]
theorem Dp_Ln {ns : List Str} (hs : ∀ s ∈ ns, PyData.strOk s = true) : Dp 1 (Ln ns) := Dp.lst fun x hx => by
  obtain ⟨s, hm, rfl⟩ := List.mem_map.mp hx
  exact Dp.kd (kd_str (hs s hm))
theorem Dp_Jl (sz : List Nat) (js : List Rw) : Dp 4 (Jl sz js) := Dp.lst fun x hx => by
  obtain ⟨r, _, rfl⟩ := List.mem_map.mp hx
  exact Dp.kd (kd_J sz r)
structure PastOk (sz : List Nat) (past : List (Str × List Str × List Rw)) : Prop where
  each : ∀ e ∈ past, PyData.strOk e.1 = true ∧ StOk sz ⟨e.2.1, e.2.2, []⟩
theorem Dp_Lp {sz : List Nat} {past : List (Str × List Str × List Rw)} (hp : PastOk sz past) : Dp 6 (Lp sz past) := Dp.lst fun x hx => by
  obtain ⟨e, hm, rfl⟩ := List.mem_map.mp hx
  obtain ⟨h1, h2⟩ := hp.each e hm
  exact Dp.tup fun y hy => by
    rcases List.mem_cons.mp hy with rfl | hy
    · exact Dp.kd (kd_str h1)
    · rcases List.mem_cons.mp hy with rfl | hy
      · exact Dp.mono (by omega) (Dp_Ln h2.nm)
      · rw [List.mem_singleton.mp hy]
        exact Dp_Jl _ _
theorem asT_r {C : Ct} {ts : Tgs} {s : Nat} {e : Rf.Env} {ws : List W} (g : h[s]? = some (.lst ws)) : asT C ts (.r s) e h = asWs C ts ws e h := by
  unfold asT sq
  simp only [g]
theorem eq_nil {xs : List D} (hx : shp (.list xs) = true) : cmpB .Eq (.d (.list xs)) (.d (.list [])) h = some xs.isEmpty := by
  rw [cmp_eq hx (shp_of (by rw [PyData.canLay0, PyData.canLayAll0]) (by rw [PyData.depth, PyData.depthAll]; omega)), PyData.eqv]
  cases xs <;> simp [PyData.eqvAll]
theorem ne_nil {xs : List D} (hx : shp (.tuple xs) = true) : cmpB .NotEq (.d (.tuple xs)) (.d (.tuple [])) h = some (!xs.isEmpty) := by
  rw [cmp_ne hx (shp_of (by rw [PyData.canLay0, PyData.canLayAll0]) (by rw [PyData.depth, PyData.depthAll]; omega)), PyData.eqv]
  cases xs <;> simp [PyData.eqvAll]
theorem cmp_ninLn {ns : List Str} (hs : ∀ s ∈ ns, PyData.strOk s = true) {x : Str} (hx : PyData.strOk x = true) : cmpB .NotIn (.d (.str x)) (.d (Ln ns)) h = some (!decide (x ∈ ns)) := by
  rw [Ln, cmp_ninl (shp_s hx) ((Dp_Ln hs).shp (by omega)), any_Ns ns hs]
theorem cmp_inLn {ns : List Str} (hs : ∀ s ∈ ns, PyData.strOk s = true) {x : Str} (hx : PyData.strOk x = true) : cmpB .In (.d (.str x)) (.d (Ln ns)) h = some (decide (x ∈ ns)) := by
  rw [Ln, cmp_inl (shp_s hx) ((Dp_Ln hs).shp (by omega)), any_Ns ns hs]
theorem shp_over (sz : List Nat) (js : List Rw) (ls : List (List Nat × Nat)) : shp (.tuple (overD sz js ls)) = true := pz_shp_tup (n := 1) (fun x hx => by
  obtain ⟨l, _, rfl⟩ := List.mem_map.mp hx
  exact kd_N _) (by omega)
section
variable {s2 : Nat} {sz : List Nat} {ls : List (List Nat × Nat)} {st : LSt}
theorem e_due (hn : 9 ≤ n) (hs : Sz sz) (hl : Lims ls sz.length) (k : StOk sz st) (pk : PastOk sz st.past) (g : h[s2]? = some (staO sz st)) (s : Stp) (so : s.Ok sz) :
    callN T 100 n 48 [.d (N sz), .d (Lms ls), .r s2, .d (s.D sz)] h = .ok (.d (doneR sz ls st s).1) (h.set s2 (staO sz (doneR sz ls st s).2)) := by
  have la : s2 < h.length := (List.getElem?_eq_some_iff.mp g).1
  have gs : ∀ o, (h.set s2 o)[s2]? = some o := fun o => List.getElem?_set_self la
  have hnl := k.nl
  have hjl := k.jl
  have hpl := k.pl
  have self : h.set s2 (staO sz st) = h := by
    apply List.ext_getElem?
    intro i
    by_cases c : s2 = i
    · subst c
      rw [gs, g]
    · rw [List.getElem?_set_ne c]
  rw [call_r (fe := f48) (by omega) rfl rfl rfl]
  have g' : h[s2]? = some (.lst [.d (Ln st.ns), .d (Jl sz st.js), .d (Lp sz st.past)]) := g
  cases s with
  | undo =>
    simp_arith [f48, f48_b, f48_0, f48_1, asT_r g', Stp.D, cs_uu]
    rw [Lp, eq_nil ((Dp_Lp pk).shp (by omega)), List.isEmpty_map]
    unfold doneR
    cases e : st.past.getLast? with
    | none =>
      have hp : st.past = [] := List.getLast?_eq_none_iff.mp e
      simp_arith [hp, List.isEmpty_nil]
      rw [trim_same rfl, self]
    | some q =>
      have hne : st.past ≠ [] := fun z => by rw [z] at e; cases e
      have he : st.past.isEmpty = false := by cases hh : st.past with
        | nil => exact absurd hh hne
        | cons _ _ => rfl
      have el : (st.past.map (pastL sz))[(st.past.map (pastL sz)).length - 1]? = some (pastL sz q) := by
        rw [List.length_map, List.getElem?_map, ← List.getLast?_eq_getElem?, e]
        rfl
      simp_arith [he]
      rw [sub_llast el, pastL]
      simp_arith [setr_0 g']
      simp_arith [setr_1 (gs _), List.set_set]
      rw [slc_llast (lim_of (by rw [List.length_map]; omega))]
      simp_arith [setr_2 (gs _), List.set_set]
      rw [trim_same (by rw [List.length_set]), ← List.map_dropLast]
      rfl
  | drop x =>
    obtain ⟨h1, h2, h3⟩ := so
    simp_arith [f48, f48_b, f48_0, f48_1, f48_2, asT_r g', Stp.D, cs_du, cs_dd, cmp_ninLn k.nm h1]
    unfold doneR
    by_cases c : x ∈ st.ns
    · obtain ⟨ei, hi⟩ := idx_at c
      simp_arith [c]
      rw [Ln, mth_index ((Dp_Ln k.nm).shp (by omega)) (shp_s h1) ei]
      simp_arith []
      rw [slc_lto _ (lim_of (by rw [List.length_map]; omega))]
      simp_arith []
      rw [slc_lfrom _ (idx st.ns x + 1) (by omega) (lim_of (by rw [List.length_map]; omega))]
      simp_arith []
      rw [bin_addl (lim_of (by rw [List.length_take, List.length_drop, List.length_map]; omega)), ← del_map]
      simp_arith []
      rw [Jl, slc_lto _ (lim_of (by rw [List.length_map]; omega))]
      simp_arith []
      rw [slc_lfrom _ (idx st.ns x + 1) (by omega) (lim_of (by rw [List.length_map]; omega))]
      simp_arith []
      rw [bin_addl (lim_of (by rw [List.length_take, List.length_drop, List.length_map]; omega)), ← del_map]
      simp_arith [setr_0 g']
      simp_arith [setr_1 (gs _), List.set_set]
      rw [Lp, bin_addl (lim_of (by rw [List.length_map]; simp only [List.length_cons, List.length_nil]; omega))]
      simp_arith [setr_2 (gs _), List.set_set]
      rw [trim_same (by rw [List.length_set])]
      unfold staO Lp
      rw [List.map_append]
      rfl
    · simp_arith [c]
      rw [trim_same rfl, self]
  | tell x rows =>
    obtain ⟨⟨h1, h2, h3⟩, hj⟩ := so
    have e1 := fun h => e_lover (h := h) (show 7 ≤ n - 1 by omega) sz hs (st.js ++ [rows]) (k.jts1 hj) ls hl
    simp_arith [f48, f48_b, f48_0, f48_1, f48_2, f48_3, f48_4, f48_5, f48_6, f48_7, asT_r g', Stp.D, cs_tu, cs_td, cmp_inLn k.nm h1]
    unfold doneR
    by_cases c : x ∈ st.ns
    · simp_arith [c]
      rw [trim_same rfl, self]
    · simp_arith [c]
      rw [Jl, bin_addl (lim_of (by rw [List.length_map]; simp only [List.length_cons, List.length_nil]; omega))]
      rw [show PyData.list (st.js.map (J sz) ++ [J sz rows]) = Jl sz (st.js ++ [rows]) by unfold Jl; rw [List.map_append]; rfl]
      simp_arith [e1, ne_nil (shp_over _ _ _)]
      cases eo : overD sz (st.js ++ [rows]) ls with
      | cons d r =>
        simp_arith [List.isEmpty_cons]
        rw [trim_same rfl, self]
      | nil =>
        simp_arith [List.isEmpty_nil]
        rw [Ln, bin_addl (lim_of (by rw [List.length_map]; simp only [List.length_cons, List.length_nil]; omega))]
        simp_arith []
        rw [bin_addl (lim_of (by rw [List.length_map]; simp only [List.length_cons, List.length_nil]; omega))]
        simp_arith []
        rw [Lp, bin_addl (lim_of (by rw [List.length_map]; simp only [List.length_cons, List.length_nil]; omega))]
        simp_arith [setr_0 g']
        simp_arith [setr_1 (gs _), List.set_set]
        simp_arith [setr_2 (gs _), List.set_set]
        rw [trim_same (by rw [List.length_set])]
        unfold staO Lp Ln Jl
        simp only [List.map_append]
        rfl
end
end
/-! a ledger stands as its account -/
section
variable {n : Nat} {h : Hs}
theorem sm_tup {m : Nat} {xs : List D} (l : xs.length ≤ 1000) (h : ∀ x ∈ xs, sm m x = true) : sm (m + 1) (.tuple xs) = true := by
  rw [sm, Bool.and_eq_true, decide_eq_true_eq]
  exact ⟨l, sms_iff.mpr h⟩
theorem sm_lst {m : Nat} {xs : List D} (l : xs.length ≤ 1000) (h : ∀ x ∈ xs, sm m x = true) : sm (m + 1) (.list xs) = true := by
  rw [sm, Bool.and_eq_true, decide_eq_true_eq]
  exact ⟨l, sms_iff.mpr h⟩
theorem sm_int (m : Nat) (i : Int) : sm m (.int i) = true := by cases m <;> rw [sm]
theorem sm_none (m : Nat) : sm m .none = true := by cases m <;> rw [sm]
theorem sm_bool (m : Nat) (b : Bool) : sm m (.bool b) = true := by cases m <;> rw [sm]
theorem sm_str {m : Nat} {s : Str} (h : PyData.strOk s = true) : sm m (.str s) = true := by cases m <;> (rw [sm]; exact h)
mutual
theorem sm_mono : ∀ {n m : Nat} {x : D}, n ≤ m → sm n x = true → sm m x = true
  | n, m, .none, _, _ => sm_none m
  | n, m, .int i, _, _ => sm_int m i
  | n, m, .bool i, _, _ => sm_bool m i
  | n, m, .str s, _, h => by
    refine sm_str ?_
    cases n <;> (rw [sm] at h; exact h)
  | 0, m, .tuple xs, _, h => by rw [sm] at h; cases h
  | 0, m, .list xs, _, h => by rw [sm] at h; cases h
  | n + 1, m, .tuple xs, l, h => by
    obtain ⟨m, rfl⟩ : ∃ k, m = k + 1 := ⟨m - 1, by omega⟩
    rw [sm, Bool.and_eq_true] at h ⊢
    exact ⟨h.1, sms_mono (by omega) h.2⟩
  | n + 1, m, .list xs, l, h => by
    obtain ⟨m, rfl⟩ : ∃ k, m = k + 1 := ⟨m - 1, by omega⟩
    rw [sm, Bool.and_eq_true] at h ⊢
    exact ⟨h.1, sms_mono (by omega) h.2⟩
  | n, m, .dict _, _, h => by cases n <;> (rw [sm] at h; cases h)
theorem sms_mono : ∀ {n m : Nat} {xs : List D}, n ≤ m → sms n xs = true → sms m xs = true
  | _, _, [], _, _ => by rw [sms]
  | n, m, x :: xs, l, h => by
    rw [sms, Bool.and_eq_true] at h ⊢
    exact ⟨sm_mono l h.1, sms_mono l h.2⟩
end
theorem sm_N {a : List Nat} (l : a.length ≤ 1000) : sm 1 (N a) = true := sm_tup (by rw [List.length_map]; exact l) fun x hx => by
  obtain ⟨k, _, rfl⟩ := List.mem_map.mp hx
  exact sm_int 0 _
theorem sm_Lms {ls : List (List Nat × Nat)} {c : Nat} (hl : Lims ls c) : sm 3 (Lms ls) = true := sm_tup (by rw [List.length_map]; exact hl.few) fun x hx => by
  obtain ⟨l, hm, rfl⟩ := List.mem_map.mp hx
  refine sm_tup (by simp) fun y hy => ?_
  rcases List.mem_cons.mp hy with rfl | hy
  · exact sm_N (hl.each l hm).1.few
  · rw [List.mem_singleton.mp hy]
    exact sm_int 1 _
theorem sm_J {sz : List Nat} (hs : Sz sz) {rows : Rw} (hj : Jt sz rows) : sm 3 (J sz rows) = true := sm_tup (by simp) fun x hx => by
  have h3 := hs.three
  have hc := hs.len
  rcases List.mem_cons.mp hx with rfl | hx
  · exact sm_mono (by omega) (sm_N (by omega))
  · rw [List.mem_singleton.mp hx]
    refine sm_tup (by rw [List.length_map, hj.len]; omega) fun y hy => ?_
    obtain ⟨r, hr, rfl⟩ := List.mem_map.mp hy
    refine sm_tup (by rw [List.length_map, hj.row r hr]; omega) fun z hz => ?_
    obtain ⟨o, _, rfl⟩ := List.mem_map.mp hz
    cases o with
    | none => exact sm_none 0
    | some k => exact sm_int 0 _
theorem sm_Js {sz : List Nat} (hs : Sz sz) {js : List Rw} (hj : Jts sz js) : sm 4 (Js sz js) = true := sm_tup (by rw [List.length_map]; have := hj.few; omega) fun x hx => by
  obtain ⟨r, hr, rfl⟩ := List.mem_map.mp hx
  exact sm_J hs (hj.each r hr)
theorem sm_Ns {ns : List Str} (hn : ∀ s ∈ ns, PyData.strOk s = true) (l : ns.length ≤ 1000) : sm 1 (Ns ns) = true := sm_tup (by rw [List.length_map]; exact l) fun x hx => by
  obtain ⟨s, hm, rfl⟩ := List.mem_map.mp hx
  exact sm_str (hn s hm)
theorem fold_few : ∀ (l : List (D × Nat)) (st : List (D × List Nat)) (m : Nat), (∀ g ∈ st, g.2.length ≤ m) → ∀ g ∈ l.foldl (fun st p => addG st p.1 p.2) st, g.2.length ≤ m + l.length
  | [], st, m, h => h
  | p :: l, st, m, h => by
    intro g hg
    have z := fold_few l (addG st p.1 p.2) (m + 1) (fun g hg => by
      rcases find_cases2 st p.1 with nf | ⟨p', g', r', rfl, f1, f2⟩
      · rw [addG_none nf] at hg
        rcases List.mem_append.mp hg with hg | hg
        · have := h g hg; omega
        · rw [List.mem_singleton.mp hg]
          simp
      · rw [addG_some f1 f2] at hg
        rcases List.mem_append.mp hg with hg | hg
        · have := h g (List.mem_append_left _ hg); omega
        · rcases List.mem_cons.mp hg with hg | hg
          · rw [hg]
            have := h g' (List.mem_append_right _ List.mem_cons_self)
            simp only [List.length_append, List.length_cons, List.length_nil]
            omega
          · have := h g (List.mem_append_right _ (List.mem_cons_of_mem _ hg)); omega) g hg
    rw [List.length_cons]
    omega
theorem clsN_few (sz : List Nat) (js : List Rw) (lot : List Nat) : ∀ ps ∈ clsN sz js lot, ps.length ≤ (ins sz).length := by
  intro ps hp
  unfold clsN at hp
  have := (List.mergeSort_perm _ leN).mem_iff.mp hp
  obtain ⟨g, hg, rfl⟩ := List.mem_map.mp this
  have z := fold_few ((ins sz).map (toldD sz js lot)).zipIdx [] 0 (fun _ h => by cases h) g hg
  rw [List.length_zipIdx, List.length_map] at z
  omega
theorem mine_few {sz : List Nat} {js : List Rw} {lot : List Nat} {k : Nat} (hk : k < (ins sz).length) : (mineN sz js lot k).length ≤ (ins sz).length := by
  obtain ⟨r, e, _⟩ := mine_ok (js := js) (lot := lot) hk
  have hm : mineN sz js lot k ∈ (clsN sz js lot).filter fun ps => decide (k ∈ ps) := by rw [e]; exact List.mem_cons_self
  exact clsN_few sz js lot _ (List.mem_filter.mp hm).1
theorem sm_cls {sz : List Nat} (hs : Sz sz) (js : List Rw) (lot : List Nat) : sm 2 (cls sz js lot) = true := by
  have hc := hs.len
  rw [cls_t, clsT_N]
  refine sm_tup (by rw [List.length_map]; have := len_clsN sz js lot; omega) fun x hx => ?_
  obtain ⟨ps, hp, rfl⟩ := List.mem_map.mp hx
  exact sm_N (by have := clsN_few sz js lot ps hp; omega)
theorem sm_poss {sz : List Nat} (hs : Sz sz) (js : List Rw) (lot : List Nat) {k : Nat} (hk : k < (ins sz).length) : sm 2 (possD sz js lot k) = true := by
  have hc := hs.len
  have h3 := hs.three
  refine sm_tup (by rw [List.length_map]; have := mine_few (js := js) (lot := lot) hk; omega) fun x hx => ?_
  obtain ⟨y, hy, rfl⟩ := List.mem_map.mp hx
  obtain ⟨_, _, hm⟩ := mine_ok (js := js) (lot := lot) hk
  have hl := hm y hy
  refine sm_N ?_
  have : (ins sz).getD y [] ∈ ins sz := by
    rw [List.getD_eq_getElem?_getD, List.getElem?_eq_getElem hl]
    exact List.getElem_mem hl
  rw [ins_len _ this]
  omega
theorem sm_rest (sz : List Nat) (ls : List (List Nat × Nat)) (js : List Rw) (lot : List Nat) : sm 0 (restD sz ls js lot) = true := by
  unfold restD
  split
  · exact sm_int 0 _
  · exact sm_none 0
theorem sm_over {sz : List Nat} {c : Nat} (js : List Rw) {ls : List (List Nat × Nat)} (hl : Lims ls c) : sm 2 (.tuple (overD sz js ls)) = true := by
  refine sm_tup ?_ fun x hx => ?_
  · unfold overD overs
    rw [List.length_map]
    exact Nat.le_trans (List.length_filter_le _ _) hl.few
  · obtain ⟨l, hm, rfl⟩ := List.mem_map.mp hx
    exact sm_N (hl.each l (List.mem_filter.mp hm).1).1.few
def leniB (B : Int) (C : Ct) (f : Nat) (c : Str) (w : W) (h1 : Hs) : Res W := match w with
    | .r n => (match h1[n]? with
      | some (.ins c' _) => if c' = c then (C.sp f [.r n] h1).bd fun u h2 => (match u with
        | .d (.int i) => if 0 ≤ i ∧ i < B then rok (.int i) h2 else .no
        | _ => .no) else .no
      | _ => .no)
    | _ => .no
theorem leni_B (C : Ct) (f : Nat) (c : Str) (w : W) (h1 : Hs) : leniW C f c w h1 = leniB (2 ^ 63) C f c w h1 := by
  unfold leniW leniB
  rfl
theorem leniB_i {B : Int} {C : Ct} {f : Nat} {c : Str} {a : Nat} {fs : List (Str × W)} {k : Nat} (e : h[a]? = some (.ins c fs)) (e1 : C.sp f [.r a] h = .ok (.d (.int k)) h) (l : (k : Int) < B) : leniB B C f c (.r a) h = .ok (.d (.int k)) h := by
  unfold leniB
  simp only [e, if_true, e1, bd_ok]
  rw [if_pos ⟨Int.natCast_nonneg k, l⟩]
  rfl
theorem leni_i {C : Ct} {f : Nat} {c : Str} {a : Nat} {fs : List (Str × W)} {k : Nat} (e : h[a]? = some (.ins c fs)) (e1 : C.sp f [.r a] h = .ok (.d (.int k)) h) (l : k ≤ 1000) : leniW C f c (.r a) h = .ok (.d (.int k)) h := by
  rw [leni_B]
  exact leniB_i e e1 (Int.lt_of_le_of_lt (Int.ofNat_le.mpr l) (by decide +kernel))
theorem forall_4 {P : D → Prop} {x y z w u : D} (h1 : P x) (h2 : P y) (h3 : P z) (h4 : P w) (h5 : P u) : ∀ v ∈ [x, y, z, w, u], P v := by
  intro v hv
  simp only [List.mem_cons, List.not_mem_nil, or_false] at hv
  rcases hv with rfl | rfl | rfl | rfl | rfl <;> assumption
theorem forall_3 {P : D → Prop} {x y z : D} (h1 : P x) (h2 : P y) (h3 : P z) : ∀ v ∈ [x, y, z], P v := by
  intro v hv
  simp only [List.mem_cons, List.not_mem_nil, or_false] at hv
  rcases hv with rfl | rfl | rfl <;> assumption
section
variable {s a p s2 : Nat} {sz : List Nat} {ls : List (List Nat × Nat)} {st : LSt}
theorem e_stands {M : Int × Int → Hs} (S : SrcAt M s) (cl : ∀ q, Cl (M q)) (hn : 13 ≤ n) (hs : Sz sz) (L : ∀ q, Led (M q) a p sz ls st) (g : ∀ q, (M q)[s2]? = some (staO sz st)) (hl : Lims ls sz.length) (nd : (ls.map (·.1)).Nodup) (k : StOk sz st) (q : Int × Int) :
    ∃ q', callN T 100 n 49 [.r s, .r a, .d (N sz), .d (Lms ls), .r s2] (M q) = .ok (.d (.bool true)) (M q') := by
  have h3 := hs.three
  have hc := hs.len
  have hp0 := ins_pos hs.pos
  have hnl := k.nl
  have hjl := k.jl
  rw [call_r (fe := f49) (by omega) rfl rfl rfl]
  have g' : (M q)[s2]? = some (.lst [.d (Ln st.ns), .d (Jl sz st.js), .d (Lp sz st.past)]) := g q
  have e1 := e_joints (n := n - 1) (by omega) (L q)
  have e2 := e_len (n := n - 2) (by omega) (L q)
  have e3 := leni_i (C := CtN T 100 n) (c := "LeakLedger") (f := 24) (L q).o e2 (by omega)
  have t1 : bifW .tuple false [.d (Ln st.ns)] (M q) = .ok (.d (Ns st.ns)) (M q) := tup_l (lim_of (by rw [List.length_map]; omega))
  have t2 : bifW .tuple false [.d (Jl sz st.js)] (M q) = .ok (.d (Js sz st.js)) (M q) := tup_l (lim_of (by rw [List.length_map]; omega))
  have t3 : bifW .len false [.d (Ln st.ns)] (M q) = .ok (.d (.int (st.ns.length : Nat))) (M q) := by rw [Ln, len_l, List.length_map]
  have s1 : sm 5 (.list [N sz, Lms ls, Ns st.ns, Js sz st.js, .int (st.ns.length : Nat)]) = true := sm_lst (by simp) (forall_4 (sm_mono (by omega) (sm_N (by omega))) (sm_mono (by omega) (sm_Lms hl)) (sm_mono (by omega) (sm_Ns k.nm (by omega))) (sm_Js hs k.jts) (sm_int 4 _))
  have e4 := e_same 5 (n - 1) _ s1 (by omega) (M q)
  have e5 := e_linputs (h := M q) (n := n - 1) (by omega) sz hs
  have e6 := dict_L (h := M q) (m := false) nd hl.few
  obtain ⟨lots, e7, p7⟩ := e_lots (h := M q) (n := n - 1) (by omega) sz.length (by omega)
  simp_arith [f49, f49_b, f49_0, f49_1, f49_2, f49_3, f49_4, f49_5, f49_6, f49_7, asT_r g', (L q).f1, (L q).f2, (L q).f3, mclA_i (L q).o lm_7, e1, e3, t1, t2, t3, e4, e5, e6, len_N, e7]
  rw [wd_map]
  generalize hq : forL _ _ _ _ = o
  obtain ⟨e', h', rfl, q', x8, x11, x12, x13, x14, x15, rfl, rfl⟩ := for_endP hq lots (fun l => .one (.d (N l))) (fun pre e h' => ∃ (q' : Int × Int) (x8 x11 x12 x13 x14 x15 : Option W), e = [some (.r s), some (.r a), some (.d (N sz)), some (.d (Lms ls)), some (.r s2), some (.d (Ln st.ns)), some (.d (Jl sz st.js)), some (.d (Lp sz st.past)), x8, some (.d (.list ((ins sz).map N))), some (.d (dictD ls)), x11, x12, x13, x14, x15, none, none, none] ∧ h' = M q') rfl ⟨q, _, _, _, _, _, _, rfl, rfl⟩ (by
    rintro pre lot r e h' hp ⟨q', x8, x11, x12, x13, x14, x15, rfl, rfl⟩ P hP
    have hm : lot ∈ lots := by rw [← hp]; exact List.mem_append_right _ List.mem_cons_self
    obtain ⟨m1, m2, m3⟩ := lotsU_ok _ _ (p7.mem_iff.mp hm)
    have lo : Lot lot sz.length := Lot.of m1 m2
    have hb : lot.length ≤ 1000 := by omega
    obtain ⟨v, q2, hv, ev⟩ := e_pick S (show 2 ≤ n - 1 by omega) (ins sz).length hp0 (by omega) q'
    have ei : (ins sz)[v]? = some (ins sz)[v] := List.getElem?_eq_getElem hv
    have hin : (ins sz)[v] ∈ ins sz := List.getElem_mem hv
    have pv : place sz (ins sz)[v] = v := place_at ei
    have e8 := e_lclasses (h := M q') (n := n - 1) (by omega) sz hs st.js k.jts lot lo hb
    have e9 := e_lclass (n := n - 1) (by omega) hs (L q2) k lot lo hb
    have e10 := e_rest (n := n - 1) (by omega) hs (L q2) k nd hl.few lot lo hb
    have e11 := e_poss (n := n - 1) (by omega) hs (L q2) k lot lo hb (ins sz)[v] hin (by rw [pv]; have := mine_few (js := st.js) (lot := lot) hv; omega)
    rw [pv] at e11
    have hcl := len_clsN sz st.js lot
    obtain ⟨rr, em, hmem⟩ := mine_ok (js := st.js) (lot := lot) hv
    have hmf := mine_few (js := st.js) (lot := lot) hv
    have esub : subW (.d (.list ((ins sz).map N))) (.d (.int (v : Nat))) (M q2) = .ok (.d (N (ins sz)[v])) (M q2) := sub_lst (by rw [List.getElem?_map, ei]; rfl)
    have eR : (if (lookL ls lot).isSome = true then (subW (.d (dictD ls)) (.d (N lot)) (M q')).bd (fun w h1 => binW .Sub false w (.d (.int ((clsT sz st.js lot).length : Nat))) h1) else .ok (.d .none) (M q')) = .ok (.d (restD sz ls st.js lot)) (M q') := by
      unfold restD
      cases e : lookL ls lot with
      | some k =>
        rw [if_pos (show (some k).isSome = true from rfl), sub_L ls lot k e]
        rfl
      | none => rfl
    simp_arith [forT, e8, in_L, cls_t, -out_ite]
    rw [eR]
    simp_arith [List.length_map, ev]
    rw [lc_filter (h1 := M q2) (clsN sz st.js lot) (fun ps => .one (.d (N ps))) (fun ps => decide (v ∈ ps)) N (by rw [clsT_N]; simp_arith []; rw [wd_map]) (lim_of (by omega)) (fun ps hp => by
        simp_arith [lcT, in_N]
        cases decide (v ∈ ps) <;> simp_arith [])]
    rw [em]
    rw [← cls_t]
    simp_arith [mclA_i (L q2).o lm_8, e9, mclA_i (L q2).o lm_9, e10, mclA_i (L q2).o lm_10, esub, e11]
    rw [lc_map (h1 := M q2) (mineN sz st.js lot v) (fun k : Nat => .one (.d (.int k))) (fun x => N ((ins sz).getD x [])) (by simp_arith []; rw [N, src_t, wd_map]) (lim_of (by omega)) (fun x hx => by
      simp_arith [lcT, sub_lst (ins_at (hmem x hx))])]
    simp_arith []
    rw [tup_l (lim_of (by rw [List.length_map]; omega))]
    have s2 : sm 3 (.list [cls sz st.js lot, restD sz ls st.js lot, possD sz st.js lot v]) = true := sm_lst (by simp) (forall_3 (sm_cls hs _ _) (sm_mono (by omega) (sm_rest _ _ _ _)) (sm_poss hs _ _ hv))
    have e12 := e_same 3 (n - 1) _ s2 (by omega) (M q2)
    unfold possD at e12
    simp_arith []
    rw [show possD sz st.js lot v = .tuple ((mineN sz st.js lot v).map fun x => N ((ins sz).getD x [])) from rfl, e12]
    simp_arith []
    refine .nx ?_
    rw [hP]
    exact ⟨q2, _, _, _, _, _, _, rfl, rfl⟩)
  obtain ⟨rows, q2, hj, e13⟩ := e_joint S cl (n := n - 1) (by omega) sz hs q'
  have e14 := e_would (n := n - 1) (by omega) hs (L q2) (cl q2) hl k rows hj
  have e15 := fun h => e_lover (h := h) (n := n - 1) (by omega) sz hs (st.js ++ [rows]) (k.jts1 hj) ls hl
  have e16 := e_same 2 (n - 1) _ (sm_over (st.js ++ [rows]) (sz := sz) hl) (by omega) (M q2)
  refine ⟨q2, ?_⟩
  simp_arith [e13, mclA_i (L q2).o lm_11, e14]
  rw [Jl, bin_addl (lim_of (by rw [List.length_map]; simp only [List.length_cons, List.length_nil]; omega))]
  rw [show PyData.list (st.js.map (J sz) ++ [J sz rows]) = Jl sz (st.js ++ [rows]) by unfold Jl; rw [List.map_append]; rfl]
  simp_arith [e15, e16]
  rw [trim_same (S.len _ _)]
end
end
/-! odd values are refused -/
section
variable {n : Nat} {h : Hs}
theorem rng_6 : rngW [.d (.int 6)] h = .ok (.ws [.one (.d (.int 0)), .one (.d (.int 1)), .one (.d (.int 2)), .one (.d (.int 3)), .one (.d (.int 4)), .one (.d (.int 5))]) h := rng_n (n := 6) (lim_of (by decide))
theorem rep_9 (m : Nat) : (List.replicate m [(W.d (.int 9))]).flatten = (List.replicate m (PyData.int 9)).map W.d := by
  induction m with
  | zero => rfl
  | succ m ih =>
    rw [List.replicate_succ, List.flatten_cons, ih]
    rfl
theorem bin_rep9 {m : Nat} (l : m ≤ 1000) (l2 : 2 ≤ m) : binW .Mult false (.d (.tuple [.int 9])) (.d (.int m)) h = .ok (.d (N (List.replicate m 9))) h := by
  show (if 0 ≤ (m : Int) ∧ (m : Int) ≤ 1000 ∧ ([W.d (.int 9)] : List W).length ≤ 1000 ∧ (true = true → [W.d (.int 9)] ≠ [] ∧ 2 ≤ (m : Int)) then mkt (List.replicate (m : Int).toNat [W.d (.int 9)]).flatten h else .no) = _
  rw [if_pos ⟨by omega, by omega, by simp, fun _ => ⟨by simp, by omega⟩⟩, show (m : Int).toNat = m by omega, rep_9]
  rw [mkt_d (lim_of (by rw [List.length_replicate]; omega))]
  unfold N
  rw [List.map_replicate]
  rfl
section
variable {a p : Nat} {sz : List Nat} {ls : List (List Nat × Nat)} {st : LSt}
theorem app_w (ws : List D) (x : D) (l : ws.length ≤ 1000) : mthA .append (.r h.length) (h ++ [.lst (ws.map W.d)]) (.ok [.d x] (h ++ [.lst (ws.map W.d)])) = .ok (.d .none) (h ++ [.lst ((ws ++ [x]).map W.d)]) := by
  have g : (h ++ [Ob.lst (ws.map W.d)])[h.length]? = some (.lst (ws.map W.d)) := by rw [get_at0]; rfl
  rw [mth_app g g (Nat.lt_of_le_of_lt (show _ ≤ 1000 by rw [List.length_map]; exact l) (by decide)), set_at0, List.map_append]
  rfl
theorem e_refused (hn : 13 ≤ n) (hs : Sz sz) (L : Led h a p sz ls st) (cl : Cl h) (k : StOk sz st) : callN T 100 n 50 [.r a, .d (N sz)] h = .ok (.d (.bool true)) h := by
  have h2 := hs.two
  have h3 := hs.three
  rw [call_r (fe := f50) (by omega) rfl rfl rfl]
  have Lt : ∀ ws : List D, Led (h ++ [.lst (ws.map W.d)]) a p sz ls st := fun ws => L.app _
  have Ct : ∀ ws : List D, Cl (h ++ [.lst (ws.map W.d)]) := fun ws => cl.app fun o ho => by
    rw [List.mem_singleton.mp ho]
    exact ltb_lst _ _
  have n0 : ∀ ws : List D, mkI T (callN T 100 (n - 2)) 0 [.d (.tuple [.int 1]), .d .none] (h ++ [.lst (ws.map W.d)]) = .ex ⟨"InvalidJoint", none⟩ (h ++ [.lst (ws.map W.d)]) := fun ws => e_new_a (by omega) (Ct ws) .none
  have n1 : ∀ ws : List D, mkI T (callN T 100 (n - 2)) 0 [.d (N sz), .d (.tuple [.tuple [.tuple [.int 0], .int 0]])] (h ++ [.lst (ws.map W.d)]) = .ex ⟨"InvalidLimits", none⟩ (h ++ [.lst (ws.map W.d)]) := fun ws => e_new_b (by omega) (Ct ws) sz hs
  have n2 : ∀ ws : List D, callN T 100 (n - 1) 35 [.r a, .d (.tuple [N sz, .tuple []])] (h ++ [.lst (ws.map W.d)]) = .ex ⟨"InvalidJoint", none⟩ (h ++ [.lst (ws.map W.d)]) := fun ws => e_would_e (by omega) hs (Lt ws)
  have n3 : ∀ ws : List D, callN T 100 (n - 1) 32 [.r a, .d (.tuple [.int 9])] (h ++ [.lst (ws.map W.d)]) = .ex ⟨"InvalidLot", none⟩ (h ++ [.lst (ws.map W.d)]) := fun ws => e_lclass9 (by omega) hs (Lt ws)
  have n4 : ∀ ws : List D, callN T 100 (n - 1) 34 [.r a, .d (.tuple []), .d (N (List.replicate sz.length 9))] (h ++ [.lst (ws.map W.d)]) = .ex ⟨"InvalidInputs", none⟩ (h ++ [.lst (ws.map W.d)]) := fun ws => e_poss9 (by omega) hs (Lt ws) k
  have n5 : ∀ ws : List D, mkI T (callN T 100 (n - 2)) 0 [.d (N sz), .d (.tuple [.tuple [.tuple [.int 1], .int 2], .tuple [.tuple [.int 0], .int 2]])] (h ++ [.lst (ws.map W.d)]) = .ex ⟨"InvalidLimits", none⟩ (h ++ [.lst (ws.map W.d)]) := fun ws => e_new_c (by omega) (Ct ws) sz hs
  have m1 : ∀ ws : List D, ∀ rr, mclA "LeakLedger" "would" (.r a) (h ++ [.lst (ws.map W.d)]) rr = rr a := fun ws rr => mclA_i (Lt ws).o lm_11
  have m2 : ∀ ws : List D, ∀ rr, mclA "LeakLedger" "classes" (.r a) (h ++ [.lst (ws.map W.d)]) rr = rr a := fun ws rr => mclA_i (Lt ws).o lm_8
  have m3 : ∀ ws : List D, ∀ rr, mclA "LeakLedger" "possible" (.r a) (h ++ [.lst (ws.map W.d)]) rr = rr a := fun ws rr => mclA_i (Lt ws).o lm_10
  have b9 : ∀ h : Hs, binW .Mult false (.d (.tuple [.int 9])) (.d (.int (sz.length : Nat))) h = .ok (.d (N (List.replicate sz.length 9))) h := fun h => bin_rep9 (by omega) h2
  have st0 : h ++ [Ob.lst []] = h ++ [.lst (([] : List D).map W.d)] := rfl
  simp_arith [f50, f50_b, f50_0, f50_1, f50_2, rng_6]
  rw [st0]
  generalize hf : forT (CtN T 100 n) _ _ = f
  have k0 : ∀ (ws : List D) (x y : Option W), ws.length ≤ 1000 → f (.one (.d (.int 0))) [some (.r a), some (.d (N sz)), some (.r h.length), x, y] (h ++ [.lst (ws.map W.d)]) = .nx [some (.r a), some (.d (N sz)), some (.r h.length), some (.d (.int 0)), some (.d (.str "joint"))] (h ++ [.lst ((ws ++ [PyData.str "joint"]).map W.d)]) := by
    intro ws x y l
    subst hf
    simp_arith [forT, n0, sb_0, sb_1, sb_2, sb_3, sb_4, sb_5, sb_6, sb_7, sb_8, sb_9, sb_10, sb_11, sb_12, sb_13, sb_14, sb_15, sb_16, sb_17, sb_18, sb_19, sb_20, sb_22, sb_23, sb_24, sb_25, sb_26, sb_27, sb_28, sb_29, sb_30, nox_nx, app_w _ _ l, -List.map_nil, -List.map_cons]
  have k1 : ∀ (ws : List D) (x y : Option W), ws.length ≤ 1000 → f (.one (.d (.int 1))) [some (.r a), some (.d (N sz)), some (.r h.length), x, y] (h ++ [.lst (ws.map W.d)]) = .nx [some (.r a), some (.d (N sz)), some (.r h.length), some (.d (.int 1)), some (.d (.str "limits"))] (h ++ [.lst ((ws ++ [PyData.str "limits"]).map W.d)]) := by
    intro ws x y l
    subst hf
    simp_arith [forT, n1, sb_0, sb_1, sb_2, sb_3, sb_4, sb_5, sb_6, sb_7, sb_8, sb_9, sb_10, sb_11, sb_12, sb_13, sb_14, sb_15, sb_16, sb_17, sb_18, sb_19, sb_20, sb_22, sb_23, sb_24, sb_25, sb_26, sb_27, sb_28, sb_29, sb_30, nox_nx, app_w _ _ l, -List.map_nil, -List.map_cons]
  have k2 : ∀ (ws : List D) (x y : Option W), ws.length ≤ 1000 → f (.one (.d (.int 2))) [some (.r a), some (.d (N sz)), some (.r h.length), x, y] (h ++ [.lst (ws.map W.d)]) = .nx [some (.r a), some (.d (N sz)), some (.r h.length), some (.d (.int 2)), some (.d (.str "joint"))] (h ++ [.lst ((ws ++ [PyData.str "joint"]).map W.d)]) := by
    intro ws x y l
    subst hf
    simp_arith [forT, n2, m1, sb_0, sb_1, sb_2, sb_3, sb_4, sb_5, sb_6, sb_7, sb_8, sb_9, sb_10, sb_11, sb_12, sb_13, sb_14, sb_15, sb_16, sb_17, sb_18, sb_19, sb_20, sb_22, sb_23, sb_24, sb_25, sb_26, sb_27, sb_28, sb_29, sb_30, nox_nx, app_w _ _ l, -List.map_nil, -List.map_cons]
  have k3 : ∀ (ws : List D) (x y : Option W), ws.length ≤ 1000 → f (.one (.d (.int 3))) [some (.r a), some (.d (N sz)), some (.r h.length), x, y] (h ++ [.lst (ws.map W.d)]) = .nx [some (.r a), some (.d (N sz)), some (.r h.length), some (.d (.int 3)), some (.d (.str "lot"))] (h ++ [.lst ((ws ++ [PyData.str "lot"]).map W.d)]) := by
    intro ws x y l
    subst hf
    simp_arith [forT, n3, m2, sb_0, sb_1, sb_2, sb_3, sb_4, sb_5, sb_6, sb_7, sb_8, sb_9, sb_10, sb_11, sb_12, sb_13, sb_14, sb_15, sb_16, sb_17, sb_18, sb_19, sb_20, sb_22, sb_23, sb_24, sb_25, sb_26, sb_27, sb_28, sb_29, sb_30, nox_nx, app_w _ _ l, -List.map_nil, -List.map_cons]
  have k4 : ∀ (ws : List D) (x y : Option W), ws.length ≤ 1000 → f (.one (.d (.int 4))) [some (.r a), some (.d (N sz)), some (.r h.length), x, y] (h ++ [.lst (ws.map W.d)]) = .nx [some (.r a), some (.d (N sz)), some (.r h.length), some (.d (.int 4)), some (.d (.str "inputs"))] (h ++ [.lst ((ws ++ [PyData.str "inputs"]).map W.d)]) := by
    intro ws x y l
    subst hf
    simp_arith [forT, n4, m3, b9, len_N, sb_0, sb_1, sb_2, sb_3, sb_4, sb_5, sb_6, sb_7, sb_8, sb_9, sb_10, sb_11, sb_12, sb_13, sb_14, sb_15, sb_16, sb_17, sb_18, sb_19, sb_20, sb_22, sb_23, sb_24, sb_25, sb_26, sb_27, sb_28, sb_29, sb_30, nox_nx, app_w _ _ l, -List.map_nil, -List.map_cons]
  have k5 : ∀ (ws : List D) (x y : Option W), ws.length ≤ 1000 → f (.one (.d (.int 5))) [some (.r a), some (.d (N sz)), some (.r h.length), x, y] (h ++ [.lst (ws.map W.d)]) = .nx [some (.r a), some (.d (N sz)), some (.r h.length), some (.d (.int 5)), some (.d (.str "limits"))] (h ++ [.lst ((ws ++ [PyData.str "limits"]).map W.d)]) := by
    intro ws x y l
    subst hf
    simp_arith [forT, n5, sb_0, sb_1, sb_2, sb_3, sb_4, sb_5, sb_6, sb_7, sb_8, sb_9, sb_10, sb_11, sb_12, sb_13, sb_14, sb_15, sb_16, sb_17, sb_18, sb_19, sb_20, sb_22, sb_23, sb_24, sb_25, sb_26, sb_27, sb_28, sb_29, sb_30, nox_nx, app_w _ _ l, -List.map_nil, -List.map_cons]
  rw [forL_cons, k0 _ _ _ (by simp), goOn_nx, forL_cons, k1 _ _ _ (by simp), goOn_nx, forL_cons, k2 _ _ _ (by simp), goOn_nx, forL_cons, k3 _ _ _ (by simp), goOn_nx, forL_cons, k4 _ _ _ (by simp), goOn_nx, forL_cons, k5 _ _ _ (by simp), goOn_nx, forL_nil]
  have g : (h ++ [Ob.lst ((([] ++ [PyData.str "joint"] ++ [PyData.str "limits"] ++ [PyData.str "joint"] ++ [PyData.str "lot"] ++ [PyData.str "inputs"] ++ [PyData.str "limits"] : List D)).map W.d)])[h.length]? = some (.lst ((([] ++ [PyData.str "joint"] ++ [PyData.str "limits"] ++ [PyData.str "joint"] ++ [PyData.str "lot"] ++ [PyData.str "inputs"] ++ [PyData.str "limits"] : List D)).map W.d)) := by rw [get_at0]; rfl
  simp_arith [cmp_eqr g (by decide +kernel) (show shp (.list [.str "joint", .str "limits", .str "joint", .str "lot", .str "inputs", .str "limits"]) = true by decide +kernel), -List.map_nil, -List.map_cons, -List.nil_append, -List.cons_append]
  rw [trim_app cl]
  congr 3
end
end
/-! what holds between two steps -/
section
variable {n : Nat} {h : Hs}
def nm4 : List Str := ["a", "b", "name", "zzzzzzzz"]
structure Inv (sz : List Nat) (m : Nat) (st : LSt) : Prop where
  nm : ∀ s ∈ st.ns, s ∈ nm4
  nl : st.ns.length ≤ m
  jo : ∀ rows ∈ st.js, Jt sz rows
  jl : st.js.length = st.ns.length
  pl : st.past.length ≤ m
  pe : ∀ e ∈ st.past, (e.1 = "tell" ∨ e.1 = "drop") ∧ (∀ s ∈ e.2.1, s ∈ nm4) ∧ e.2.1.length ≤ m ∧ (∀ rows ∈ e.2.2, Jt sz rows) ∧ e.2.2.length = e.2.1.length
theorem nm4_ok {s : Str} (hs : s ∈ nm4) : NmOk s := by
  unfold nm4 at hs
  simp only [List.mem_cons, List.not_mem_nil, or_false] at hs
  rcases hs with rfl | rfl | rfl | rfl
  · exact ⟨by decide +kernel, by decide +kernel, by decide +kernel⟩
  · exact ⟨by decide +kernel, by decide +kernel, by decide +kernel⟩
  · exact ⟨by decide +kernel, by decide +kernel, by decide +kernel⟩
  · exact ⟨by decide +kernel, by decide +kernel, by decide +kernel⟩
section
variable {sz : List Nat} {ls : List (List Nat × Nat)} {st : LSt} {m : Nat}
theorem Inv.stok (i : Inv sz m st) (hm : m ≤ 90) : StOk sz st := ⟨fun s hs => (nm4_ok (i.nm s hs)).ok, Nat.le_trans i.nl hm, i.jo, i.jl, Nat.le_trans i.pl hm⟩
theorem Inv.past (i : Inv sz m st) (hm : m ≤ 90) : PastOk sz st.past := ⟨fun e he => by
  obtain ⟨h1, h2, h3, h4, h5⟩ := i.pe e he
  refine ⟨?_, ⟨fun s hs => (nm4_ok (h2 s hs)).ok, Nat.le_trans h3 hm, h4, h5, Nat.zero_le _⟩⟩
  rcases h1 with h1 | h1 <;> rw [h1] <;> decide +kernel⟩
theorem Inv.zero (sz : List Nat) : Inv sz 0 ⟨[], [], []⟩ := ⟨(fun _ h => by cases h), Nat.le_refl _, (fun _ h => by cases h), rfl, Nat.le_refl _, fun _ h => by cases h⟩
theorem Inv.mono {m' : Nat} (i : Inv sz m st) (l : m ≤ m') : Inv sz m' st := ⟨i.nm, Nat.le_trans i.nl l, i.jo, i.jl, Nat.le_trans i.pl l, fun e he => by
  obtain ⟨h1, h2, h3, h4, h5⟩ := i.pe e he
  exact ⟨h1, h2, Nat.le_trans h3 l, h4, h5⟩⟩
def Stp.nm : Stp → Prop
  | .tell x _ => x ∈ nm4
  | .drop x => x ∈ nm4
  | .undo => True
theorem Inv.push (i : Inv sz m st) (w : Str) (hw : w = "tell" ∨ w = "drop") : ∀ e ∈ st.past ++ [(w, st.ns, st.js)], (e.1 = "tell" ∨ e.1 = "drop") ∧ (∀ s ∈ e.2.1, s ∈ nm4) ∧ e.2.1.length ≤ m + 1 ∧ (∀ rows ∈ e.2.2, Jt sz rows) ∧ e.2.2.length = e.2.1.length := by
  intro e he
  rcases List.mem_append.mp he with he | he
  · obtain ⟨h1, h2, h3, h4, h5⟩ := i.pe e he
    exact ⟨h1, h2, Nat.le_succ_of_le h3, h4, h5⟩
  · rw [List.mem_singleton.mp he]
    exact ⟨hw, i.nm, Nat.le_succ_of_le i.nl, i.jo, i.jl⟩
theorem Inv.done (i : Inv sz m st) (s : Stp) (so : s.Ok sz) (sn : s.nm) : Inv sz (m + 1) (doneR sz ls st s).2 := by
  have i1 := i.mono (Nat.le_succ m)
  cases s with
  | tell x rows =>
    unfold doneR
    dsimp only
    by_cases c : x ∈ st.ns
    · rw [if_pos c]
      exact i1
    · rw [if_neg c]
      cases overD sz (st.js ++ [rows]) ls with
      | cons d r => exact i1
      | nil =>
        refine ⟨fun s hs => ?_, ?_, fun r hr => ?_, ?_, ?_, i.push _ (.inl rfl)⟩
        · rcases List.mem_append.mp hs with hs | hs
          · exact i.nm s hs
          · rw [List.mem_singleton.mp hs]
            exact sn
        · show (st.ns ++ [x]).length ≤ _
          rw [List.length_append]
          exact Nat.succ_le_succ i.nl
        · rcases List.mem_append.mp hr with hr | hr
          · exact i.jo r hr
          · rw [List.mem_singleton.mp hr]
            exact so.2
        · show (st.js ++ [rows]).length = (st.ns ++ [x]).length
          rw [List.length_append, List.length_append, i.jl]
          rfl
        · show (st.past ++ [_]).length ≤ _
          rw [List.length_append]
          exact Nat.succ_le_succ i.pl
  | drop x =>
    unfold doneR
    dsimp only
    by_cases c : x ∈ st.ns
    · rw [if_pos c]
      obtain ⟨_, hi⟩ := idx_at c
      have d1 := del_len hi
      have d2 := del_len (l := st.js) (i := idx st.ns x) (by rw [i.jl]; exact hi)
      have := i.nl
      have := i.jl
      refine ⟨fun s hs => i.nm s (del_mem hs), ?_, fun r hr => i.jo r (del_mem hr), ?_, ?_, i.push _ (.inr rfl)⟩
      · show (del st.ns _).length ≤ _
        omega
      · show (del st.js _).length = (del st.ns _).length
        omega
      · show (st.past ++ [_]).length ≤ _
        rw [List.length_append]
        exact Nat.succ_le_succ i.pl
    · rw [if_neg c]
      exact i1
  | undo =>
    unfold doneR
    dsimp only
    cases e : st.past.getLast? with
    | none => exact i1
    | some q =>
      have hq : q ∈ st.past := List.mem_of_getLast? e
      obtain ⟨h1, h2, h3, h4, h5⟩ := i1.pe q hq
      refine ⟨h2, h3, h4, h5, ?_, fun e he => i1.pe e (List.dropLast_subset _ he)⟩
      show st.past.dropLast.length ≤ _
      rw [List.length_dropLast]
      have := i.pl
      omega
theorem sm_1 {m : Nat} {x : D} (h : sm m x = true) : ∀ y ∈ [x], sm m y = true := fun y hy => by rw [List.mem_singleton.mp hy]; exact h
theorem sm_2 {m : Nat} {x y : D} (h : sm m x = true) (h2 : sm m y = true) : ∀ z ∈ [x, y], sm m z = true := fun z hz => by
  rcases List.mem_cons.mp hz with rfl | hz
  · exact h
  · rw [List.mem_singleton.mp hz]
    exact h2
theorem sm_done {c : Nat} (i : Inv sz m st) (hl : Lims ls c) (s : Stp) (so : s.Ok sz) : sm 2 (doneR sz ls st s).1 = true := by
  cases s with
  | tell x rows =>
    unfold doneR
    dsimp only
    by_cases c : x ∈ st.ns
    · rw [if_pos c]
      exact sm_tup (by simp) (sm_2 (sm_str (by decide +kernel)) (sm_str so.1.ok))
    · rw [if_neg c]
      cases eo : overD sz (st.js ++ [rows]) ls with
      | cons d r =>
        refine sm_tup (by simp) (sm_2 (sm_str (by decide +kernel)) ?_)
        have hd : d ∈ overD sz (st.js ++ [rows]) ls := by rw [eo]; exact List.mem_cons_self
        obtain ⟨l, hm, rfl⟩ := List.mem_map.mp hd
        exact sm_N (hl.each l (List.mem_filter.mp hm).1).1.few
      | nil => exact sm_lst (by simp) (sm_1 (sm_none 1))
  | drop x =>
    unfold doneR
    dsimp only
    by_cases c : x ∈ st.ns
    · rw [if_pos c]
      exact sm_lst (by simp) (sm_1 (sm_none 1))
    · rw [if_neg c]
      exact sm_tup (by simp) (sm_2 (sm_str (by decide +kernel)) (sm_str so.ok))
  | undo =>
    unfold doneR
    dsimp only
    cases e : st.past.getLast? with
    | none => exact sm_tup (by simp) (sm_1 (sm_str (by decide +kernel)))
    | some q =>
      have hq : q ∈ st.past := List.mem_of_getLast? e
      obtain ⟨h1, _⟩ := i.pe q hq
      refine sm_lst (by simp) (sm_1 (sm_str ?_))
      rcases h1 with h1 | h1 <;> rw [h1] <;> decide +kernel
end
/-! the heap of a law's turn -/
section
variable {sz : List Nat} {ls : List (List Nat × Nat)}
/-- a source, a ledger, its past, its account, and what is left of twins -/
def HH (h : Hs) (sz : List Nat) (ls : List (List Nat × Nat)) (q : Int × Int) (st st2 : LSt) (t : Hs) : Hs := h ++ (srcO q :: ledO sz ls st.ns st.js (h.length + 2) :: pastO sz st.past :: staO sz st2 :: t)
theorem HH_len (q : Int × Int) (st st2 : LSt) (t : Hs) : (HH h sz ls q st st2 t).length = h.length + 4 + t.length := by
  unfold HH
  rw [List.length_append]
  simp only [List.length_cons]
  omega
theorem HH_src (st st2 : LSt) (t : Hs) : SrcAt (fun q => HH h sz ls q st st2 t) h.length := ⟨fun q => by
  unfold HH
  rw [get_at0]
  rfl, fun q q' => by
  unfold HH
  rw [set_at0]
  rfl⟩
theorem HH_led (q : Int × Int) (st st2 : LSt) (t : Hs) : Led (HH h sz ls q st st2 t) (h.length + 1) (h.length + 2) sz ls st := ⟨by
  unfold HH
  rw [get_at]
  rfl, by
  unfold HH
  rw [get_at]
  rfl⟩
theorem HH_sta (q : Int × Int) (st st2 : LSt) (t : Hs) : (HH h sz ls q st st2 t)[h.length + 3]? = some (staO sz st2) := by
  unfold HH
  rw [get_at]
  rfl
theorem HH_upd (q : Int × Int) (st st2 st' : LSt) (t : Hs) : upd (HH h sz ls q st st2 t) (h.length + 1) (h.length + 2) sz ls st' = HH h sz ls q st' st2 t := by
  unfold upd HH
  rw [set_at, set_at]
  rfl
theorem HH_set (q : Int × Int) (st st2 st' : LSt) (t : Hs) : (HH h sz ls q st st2 t).set (h.length + 3) (staO sz st') = HH h sz ls q st st' t := by
  unfold HH
  rw [set_at]
  rfl
theorem ltb_led {n p : Nat} (ns : List Str) (js : List Rw) (l : p < n) : Ob.ltb n (ledO sz ls ns js p) = true := by
  unfold ledO ledF Ob.ltb
  simp [W.ltb, l]
theorem ltb_past (n : Nat) (past : List (Str × List Str × List Rw)) : Ob.ltb n (pastO sz past) = true := ltb_lst n _
theorem ltb_sta (n : Nat) (st : LSt) : Ob.ltb n (staO sz st) = true := ltb_lst n [Ln st.ns, Jl sz st.js, Lp sz st.past]
theorem ltb_src (n : Nat) (q : Int × Int) : Ob.ltb n (srcO q) = true := ltb_lst n [.int q.1, .int q.2]
/-- what is left hangs on nothing that is not there -/
def Tl (h t : Hs) : Prop := ∀ o ∈ t, Ob.ltb (h.length + 4 + t.length) o = true
theorem HH_cl (cl : Cl h) (q : Int × Int) (st st2 : LSt) {t : Hs} (tl : Tl h t) : Cl (HH h sz ls q st st2 t) := by
  refine cl.app fun o ho => ?_
  have e : h.length + (srcO q :: ledO sz ls st.ns st.js (h.length + 2) :: pastO sz st.past :: staO sz st2 :: t).length = h.length + 4 + t.length := by
    simp only [List.length_cons]
    omega
  rw [e]
  simp only [List.mem_cons] at ho
  rcases ho with rfl | rfl | rfl | rfl | ho
  · exact ltb_src _ _
  · exact ltb_led _ _ (by omega)
  · exact ltb_past _ _
  · exact ltb_sta _ _
  · exact tl o ho
/-- a twin behind all -/
def YY (X : Hs) (sz : List Nat) (ls : List (List Nat × Nat)) (st st2 : LSt) : Hs := X ++ [ledO sz ls st.ns st.js (X.length + 2), .lst [], pastO sz st.past, staO sz st2]
theorem YY_led (X : Hs) (st st2 : LSt) : Led (YY X sz ls st st2) X.length (X.length + 2) sz ls st := ⟨by
  unfold YY
  rw [get_at0]
  rfl, by
  unfold YY
  rw [get_at]
  rfl⟩
theorem YY_sta (X : Hs) (st st2 : LSt) : (YY X sz ls st st2)[X.length + 3]? = some (staO sz st2) := by
  unfold YY
  rw [get_at]
  rfl
theorem YY_upd (X : Hs) (st st2 st' : LSt) : upd (YY X sz ls st st2) X.length (X.length + 2) sz ls st' = YY X sz ls st' st2 := by
  unfold upd YY
  rw [set_at, set_at0]
  rfl
theorem YY_set (X : Hs) (st st2 st' : LSt) : (YY X sz ls st st2).set (X.length + 3) (staO sz st') = YY X sz ls st st' := by
  unfold YY
  rw [set_at]
  rfl
theorem YY_cl {X : Hs} (cl : Cl X) (st st2 : LSt) : Cl (YY X sz ls st st2) := by
  refine cl.app fun o ho => ?_
  simp only [List.mem_cons, List.not_mem_nil, or_false, List.length_cons, List.length_nil] at ho ⊢
  rcases ho with rfl | rfl | rfl | rfl
  · exact ltb_led _ _ (by omega)
  · rfl
  · exact ltb_past _ _
  · exact ltb_sta _ _
theorem YY_HH (q : Int × Int) (st st2 st3 st4 : LSt) (t : Hs) : YY (HH h sz ls q st st2 t) sz ls st3 st4 = HH h sz ls q st st2 (t ++ [ledO sz ls st3.ns st3.js (h.length + 4 + t.length + 2), .lst [], pastO sz st3.past, staO sz st4]) := by
  unfold YY
  rw [HH_len]
  unfold HH
  simp
theorem Tl.app {t : Hs} (tl : Tl h t) (st3 st4 : LSt) : Tl h (t ++ [ledO sz ls st3.ns st3.js (h.length + 4 + t.length + 2), .lst [], pastO sz st3.past, staO sz st4]) := by
  intro o ho
  rw [List.length_append]
  simp only [List.length_cons, List.length_nil]
  rcases List.mem_append.mp ho with ho | ho
  · exact oltb_mono (by omega) (tl o ho)
  · simp only [List.mem_cons, List.not_mem_nil, or_false] at ho
    rcases ho with rfl | rfl | rfl | rfl
    · exact ltb_led _ _ (by omega)
    · rfl
    · exact ltb_past _ _
    · exact ltb_sta _ _
theorem YY_src {M : Int × Int → Hs} {s : Nat} (S : SrcAt M s) (st st2 : LSt) : SrcAt (fun q => YY (M q) sz ls st st2) s := ⟨fun q => by
  unfold YY
  exact get_app (S.get q), fun q q' => by
  unfold YY
  rw [List.set_append_left _ _ (List.getElem?_eq_some_iff.mp (S.get q)).1, S.set, S.len q q']⟩
end
end
/-! the law's turns -/
section
variable {n : Nat} {h : Hs}
def namesD : D := .list [.str "a", .str "b", .str "name", .str "zzzzzzzz"]
theorem names_at {v : Nat} (hv : v < 4) : ∃ x, x ∈ nm4 ∧ [PyData.str "a", .str "b", .str "name", .str "zzzzzzzz"][v]? = some (.str x) := by
  match v, hv with
  | 0, _ => exact ⟨"a", by decide +kernel, rfl⟩
  | 1, _ => exact ⟨"b", by decide +kernel, rfl⟩
  | 2, _ => exact ⟨"name", by decide +kernel, rfl⟩
  | 3, _ => exact ⟨"zzzzzzzz", by decide +kernel, rfl⟩
/-- the env of the law within its turns -/
def EE (sc cell lots : D) (sz : List Nat) (ls : List (List Nat × Nat)) (s : Nat) (xs : List (Option W)) : Rf.Env := [some (.d sc), some (.d cell), some (.r s), some (.d (N sz)), some (.d lots), some (.d (Lms ls)), some (.r (s + 1)), some (.r (s + 3)), some (.d namesD)] ++ (xs ++ [none, none])
section
variable {sz : List Nat} {ls : List (List Nat × Nat)}
theorem HH_done (hn : 11 ≤ n) (cl : Cl h) (hs : Sz sz) (hl : Lims ls sz.length) {m : Nat} (hm : m ≤ 90) {st : LSt} (i : Inv sz m st) {t : Hs} (tl : Tl h t) (q : Int × Int) (s : Stp) (so : s.Ok sz) :
    callN T 100 n 47 [.r (h.length + 1), .d (s.D sz)] (HH h sz ls q st st t) = .ok (.d (doneR sz ls st s).1) (HH h sz ls q (doneR sz ls st s).2 st t) := by
  rw [e_done hn hs (HH_led q st st t) (HH_cl cl q st st tl) hl (i.stok hm) s so, HH_upd]
theorem HH_due (hn : 9 ≤ n) (hs : Sz sz) (hl : Lims ls sz.length) {m : Nat} (hm : m ≤ 90) {st st1 : LSt} (i : Inv sz m st) {t : Hs} (q : Int × Int) (s : Stp) (so : s.Ok sz) :
    callN T 100 n 48 [.d (N sz), .d (Lms ls), .r (h.length + 3), .d (s.D sz)] (HH h sz ls q st1 st t) = .ok (.d (doneR sz ls st s).1) (HH h sz ls q st1 (doneR sz ls st s).2 t) := by
  rw [e_due hn hs hl (i.stok hm) (i.past hm) (HH_sta q st1 st t) s so, HH_set]
theorem HH_stands (hn : 13 ≤ n) (cl : Cl h) (hs : Sz sz) (hl : Lims ls sz.length) (nd : (ls.map (·.1)).Nodup) {m : Nat} (hm : m ≤ 90) {st : LSt} (i : Inv sz m st) {t : Hs} (tl : Tl h t) (q : Int × Int) :
    ∃ q', callN T 100 n 49 [.r h.length, .r (h.length + 1), .d (N sz), .d (Lms ls), .r (h.length + 3)] (HH h sz ls q st st t) = .ok (.d (.bool true)) (HH h sz ls q' st st t) :=
  e_stands (HH_src st st t) (fun q => HH_cl cl q st st tl) hn hs (fun q => HH_led q st st t) (fun q => HH_sta q st st t) hl nd (i.stok hm) q
/-! the same, for a twin: X is what stands ahead of it -/
def TT (h : Hs) (sz : List Nat) (ls : List (List Nat × Nat)) (t : Hs) (st : LSt) (q : Int × Int) (st3 st4 : LSt) : Hs := YY (HH h sz ls q st st t) sz ls st3 st4
abbrev ad (h t : Hs) : Nat := h.length + 4 + t.length
theorem TT_led (t : Hs) (st : LSt) (q : Int × Int) (st3 st4 : LSt) : Led (TT h sz ls t st q st3 st4) (ad h t) (ad h t + 2) sz ls st3 := by
  have z := YY_led (sz := sz) (ls := ls) (HH h sz ls q st st t) st3 st4
  rw [HH_len] at z
  exact z
theorem TT_sta (t : Hs) (st : LSt) (q : Int × Int) (st3 st4 : LSt) : (TT h sz ls t st q st3 st4)[ad h t + 3]? = some (staO sz st4) := by
  have z := YY_sta (sz := sz) (ls := ls) (HH h sz ls q st st t) st3 st4
  rw [HH_len] at z
  exact z
theorem TT_cl (cl : Cl h) {t : Hs} (tl : Tl h t) (st : LSt) (q : Int × Int) (st3 st4 : LSt) : Cl (TT h sz ls t st q st3 st4) := YY_cl (HH_cl cl q st st tl) st3 st4
theorem TT_done (hn : 11 ≤ n) (cl : Cl h) (hs : Sz sz) (hl : Lims ls sz.length) {m : Nat} (hm : m ≤ 90) {st st3 : LSt} (i : Inv sz m st3) {t : Hs} (tl : Tl h t) (q : Int × Int) (s : Stp) (so : s.Ok sz) :
    callN T 100 n 47 [.r (ad h t), .d (s.D sz)] (TT h sz ls t st q st3 st3) = .ok (.d (doneR sz ls st3 s).1) (TT h sz ls t st q (doneR sz ls st3 s).2 st3) := by
  rw [e_done hn hs (TT_led t st q st3 st3) (TT_cl cl tl st q st3 st3) hl (i.stok hm) s so]
  have z := YY_upd (sz := sz) (ls := ls) (HH h sz ls q st st t) st3 st3 (doneR sz ls st3 s).2
  rw [HH_len] at z
  unfold TT ad
  rw [z]
theorem TT_due (hn : 9 ≤ n) (hs : Sz sz) (hl : Lims ls sz.length) {m : Nat} (hm : m ≤ 90) {st st3 st1 : LSt} (i : Inv sz m st3) {t : Hs} (q : Int × Int) (s : Stp) (so : s.Ok sz) :
    callN T 100 n 48 [.d (N sz), .d (Lms ls), .r (ad h t + 3), .d (s.D sz)] (TT h sz ls t st q st1 st3) = .ok (.d (doneR sz ls st3 s).1) (TT h sz ls t st q st1 (doneR sz ls st3 s).2) := by
  rw [e_due hn hs hl (i.stok hm) (i.past hm) (TT_sta t st q st1 st3) s so]
  have z := YY_set (sz := sz) (ls := ls) (HH h sz ls q st st t) st1 st3 (doneR sz ls st3 s).2
  rw [HH_len] at z
  unfold TT ad
  rw [z]
theorem TT_stands (hn : 13 ≤ n) (cl : Cl h) (hs : Sz sz) (hl : Lims ls sz.length) (nd : (ls.map (·.1)).Nodup) {m : Nat} (hm : m ≤ 90) {st st3 : LSt} (i : Inv sz m st3) {t : Hs} (tl : Tl h t) (q : Int × Int) :
    ∃ q', callN T 100 n 49 [.r h.length, .r (ad h t), .d (N sz), .d (Lms ls), .r (ad h t + 3)] (TT h sz ls t st q st3 st3) = .ok (.d (.bool true)) (TT h sz ls t st q' st3 st3) :=
  e_stands (M := fun q => TT h sz ls t st q st3 st3) (YY_src (HH_src st st t) st3 st3) (fun q => TT_cl cl tl st q st3 st3) hn hs (fun q => TT_led t st q st3 st3) (fun q => TT_sta t st q st3 st3) hl nd (i.stok hm) q
theorem TT_HH (t : Hs) (st : LSt) (q : Int × Int) (st3 st4 : LSt) : TT h sz ls t st q st3 st4 = HH h sz ls q st st (t ++ [ledO sz ls st3.ns st3.js (h.length + 4 + t.length + 2), .lst [], pastO sz st3.past, staO sz st4]) := YY_HH q st st st3 st4 t
theorem HH_twin (hn : 9 ≤ n) (cl : Cl h) (hs : Sz sz) (hl : Lims ls sz.length) {m : Nat} (hm : m ≤ 90) {st : LSt} (i : Inv sz m st) {t : Hs} (tl : Tl h t) (q : Int × Int) :
    callN T 100 n 36 [.r (h.length + 1)] (HH h sz ls q st st t) = .ok (.r (ad h t)) (HH h sz ls q st st t ++ [ledO sz ls st.ns st.js (ad h t + 2), .lst [], pastO sz st.past]) := by
  have z := e_twin hn hs (HH_led q st st t) (HH_cl cl q st st tl) hl (by have := i.pl; omega)
  rw [HH_len] at z
  exact z
theorem TT_make (t : Hs) (st : LSt) (q : Int × Int) : HH h sz ls q st st t ++ [ledO sz ls st.ns st.js (ad h t + 2), .lst [], pastO sz st.past] ++ [.lst [.d (Ln st.ns), .d (Jl sz st.js), .d (Lp sz st.past)]] = TT h sz ls t st q st st := by
  unfold TT YY
  rw [HH_len, List.append_assoc]
  rfl
end
end
/-! the law -/
section
variable {n : Nat} {h : Hs}
theorem rng_12 : rngW [.d (.int 12)] h = .ok (.ws ((List.range 12).map fun i : Nat => .one (.d (.int i)))) h := rng_n (n := 12) (lim_of (by decide))
theorem bin_mod4 {k : Nat} {m : Bool} : binW .Mod m (.d (.int k)) (.d (.int 4)) h = .ok (.d (.int ((k % 4 : Nat) : Int))) h := by
  rw [bin_mod (by decide)]
  rfl
theorem slc_l7 {xs : List D} (l : xs.length ≤ lim) : slcW false (.d (.list xs)) none (some 7) h = .ok (.d (.list (xs.take 7))) h := slc_lto 7 l
def cell0 : Int := 99498743710661995473447982100120600517
theorem src_M (h : Hs) : SrcAt (fun q => h ++ [srcO q]) h.length := ⟨fun q => by rw [get_at0]; rfl, fun q q' => by rw [set_at0]; rfl⟩
theorem odd_at {v : Nat} (hv : v < 5) : ∃ y, Nm y false ∧ [PyData.none, .str "A", .str "", .str "abcdefghi", .int 5][v]? = some y := by
  have z : ∀ s : Str, s.length ≤ 1000 → okName s = false → Nm (.str s) false := fun s l e => by
    have := Nm.s s l
    rw [e] at this
    exact this
  match v, hv with
  | 0, _ => exact ⟨.none, .n, rfl⟩
  | 1, _ => exact ⟨.str "A", z _ (by decide +kernel) (by decide +kernel), rfl⟩
  | 2, _ => exact ⟨.str "", z _ (by decide +kernel) (by decide +kernel), rfl⟩
  | 3, _ => exact ⟨.str "abcdefghi", z _ (by decide +kernel) (by decide +kernel), rfl⟩
  | 4, _ => exact ⟨.int 5, .i 5, rfl⟩
theorem nm_fresh : NmOk "fresh" := ⟨by decide +kernel, by decide +kernel, by decide +kernel⟩
theorem Nm_fresh : Nm (.str "fresh") true := by
  have := Nm.s "fresh" nm_fresh.few
  rw [nm_fresh.nm] at this
  exact this
theorem fresh_not : ("fresh" : Str) ∉ nm4 := by decide +kernel
theorem HH_0 (sz : List Nat) (ls : List (List Nat × Nat)) (q : Int × Int) : h ++ [srcO q, ledO sz ls [] [] (h.length + 2), .lst [], .lst [.d (.list []), .d (.list []), .d (.list [])]] = HH h sz ls q ⟨[], [], []⟩ ⟨[], [], []⟩ [] := rfl
theorem len_3 (X : Hs) (a b c : Ob) : (X ++ [a, b, c]).length = X.length + 3 := by rw [List.length_append]; rfl
theorem law_ok (hn : 20 ≤ n) (ns : List Int) (hlen : ns.length ≤ 63) (hb : ∀ z ∈ ns, Builtin.Int.intBits z ≤ 1048576) : callN T 100 n 51 [.d (.list (ns.map PyData.int))] h = .ok (.d (.bool true)) h := by
  rw [call_d (fe := f51) (by omega) rfl rfl rfl]
  simp_arith [f51, f51_b, f51_0, f51_1]
  rw [bin_addl (lim_of (by rw [List.length_map]; simp only [List.length_cons, List.length_nil]; omega))]
  simp_arith []
  rw [slc_l7 (lim_of (by rw [List.length_cons, List.length_map]; omega))]
  simp_arith []
  rw [show (PyData.int 99498743710661995473447982100120600517 :: ns.map PyData.int) = (cell0 :: ns).map PyData.int from rfl, ← List.map_take, wd_map]
  generalize hq : forL _ _ _ _ = o
  obtain ⟨e', h', rfl, x1, x2, x3, x4, x5, x6, x7, x8, x9, x10, x11, x12, x13, x14, x15, x16, rfl, _⟩ := for_endP hq ((cell0 :: ns).take 7) (fun z => .one (.d (.int z))) (fun pre e h => ∃ x1 x2 x3 x4 x5 x6 x7 x8 x9 x10 x11 x12 x13 x14 x15 x16 : Option W, e = [some (.d (.list (ns.map PyData.int))), x1, x2, x3, x4, x5, x6, x7, x8, x9, x10, x11, x12, x13, x14, x15, x16, none, none] ∧ Cl h) rfl ⟨none, none, none, none, none, none, none, none, none, none, none, none, none, none, none, none, rfl, rfl⟩ (by
    clear hq
    rintro pre z r e h hp ⟨x1, x2, x3, x4, x5, x6, x7, x8, x9, x10, x11, x12, x13, x14, x15, x16, rfl, cl⟩ P hP
    have hm : z ∈ cell0 :: ns := List.mem_of_mem_take (by rw [← hp]; exact List.mem_append_right _ List.mem_cons_self)
    have hz : Builtin.Int.intBits z ≤ 1048576 := by
      rcases List.mem_cons.mp hm with rfl | hm
      · decide +kernel
      · exact hb z hm
    clear hp hm hb hlen
    obtain ⟨q, e1⟩ := e_source (h := h) (show 2 ≤ n - 1 by omega) z hz
    have S := src_M h
    have clM : ∀ q, Cl (h ++ [srcO q]) := fun q => cl.app fun o ho => by rw [List.mem_singleton.mp ho]; exact ltb_src _ _
    simp_arith [forT, e1]
    obtain ⟨v2, q1, hv2, ev2⟩ := e_pick S (show 2 ≤ n - 1 by omega) 2 (by omega) (by omega) q
    have ev2 : callN T 100 (n - 1) 38 [.r h.length, .d (.int 2)] (h ++ [srcO q]) = .ok (.d (.int v2)) (h ++ [srcO q1]) := ev2
    generalize hx : evE _ (.lc _ _ _ _ _ _ _ _) _ (h ++ [srcO q]) = rr
    obtain ⟨sz, q2, hsz, psz, rfl⟩ := lc_exE hx (fun q => h ++ [srcO q]) q1 (List.range (2 + v2)) (fun i : Nat => Itm.one (.d (.int i))) (fun _ (k : Nat) => 1 ≤ k ∧ k ≤ 3) (fun k : Nat => PyData.int k) (by
        simp_arith [ev2]
        exact rng_i (2 + v2) (lim_of (by omega)) (by omega) (by rw [ll]; omega)) (lim_of (by rw [List.length_range]; omega)) (fun a ha q => by
      obtain ⟨v, q', hv, ev⟩ := e_pick S (show 2 ≤ n - 1 by omega) 3 (by omega) (by omega) q
      refine ⟨1 + v, q', by omega, ?_⟩
      have ev : callN T 100 (n - 1) 38 [.r h.length, .d (.int 3)] (h ++ [srcO q]) = .ok (.d (.int v)) (h ++ [srcO q']) := ev
      simp_arith [lcT, ev]
      rfl)
    clear hx
    rw [List.length_range] at hsz
    have hs : Sz sz := ⟨by omega, by omega, fun s hm => by obtain ⟨_, _, p1, _⟩ := psz s hm; exact p1, fun s hm => by obtain ⟨_, _, _, p2⟩ := psz s hm; exact p2⟩
    simp_arith []
    rw [tup_l (lim_of (by rw [List.length_map]; omega)), show PyData.tuple (sz.map fun k : Nat => .int k) = N sz from rfl]
    obtain ⟨lots, e2, pl⟩ := e_lots (h := h ++ [srcO q2]) (show 2 ≤ n - 1 by omega) sz.length (by omega)
    have lle : lots.length ≤ 8 := by
      rw [pl.length_eq, lotsU_len]
      exact Nat.le_trans (Nat.pow_le_pow_right (by omega) (show sz.length ≤ 3 by omega)) (by decide)
    obtain ⟨found, q3, pf, e3⟩ := e_shuffled S clM (show 3 ≤ n - 1 by omega) lots (by omega) q2
    obtain ⟨v4, q4, hv4, e4⟩ := e_pick S (show 2 ≤ n - 1 by omega) 4 (by omega) (by omega) q3
    have e4 : callN T 100 (n - 1) 38 [.r h.length, .d (.int 4)] (h ++ [srcO q3]) = .ok (.d (.int v4)) (h ++ [srcO q4]) := e4
    simp_arith [len_N, e2, e3, e4]
    have fle : found.length ≤ 8 := by rw [pf.length_eq]; exact lle
    rw [slc_lto v4 (lim_of (by rw [List.length_map]; omega)), ← List.map_take]
    have ndf : (found.take v4).Nodup := (List.take_sublist _ _).nodup (pf.nodup_iff.mpr (pl.nodup_iff.mpr (lotsU_nd _)))
    obtain ⟨ys, es, pys, pw⟩ := srt_N (found.take v4) ndf
    have yle : ys.length ≤ 8 := by rw [pys.length_eq, List.length_take]; omega
    have ylot : ∀ y ∈ ys, Lot y sz.length ∧ y.length ≤ 1000 := fun y hy => by
      have h1 : y ∈ found := List.mem_of_mem_take (pys.mem_iff.mp hy)
      have h2 := pl.mem_iff.mp (pf.mem_iff.mp h1)
      obtain ⟨m1, m2, m3⟩ := lotsU_ok _ _ h2
      exact ⟨Lot.of m1 m2, by omega⟩
    simp_arith []
    generalize hx : evE _ (.lc _ _ _ _ _ _ _ _) _ (h ++ [srcO q4]) = rr
    obtain ⟨ls, q5, hls, pls, rfl⟩ := lc_exE2 hx (fun q => h ++ [srcO q]) q4 ys (fun y => .one (.d (N y))) (fun l : List Nat × Nat => l.1) (fun l => 1 ≤ l.2) Lm (by
        have z1 : srtB ((found.take v4).map N) = true := srtB_N (found.take v4) id
        have z2 : srtK ((found.take v4).map N) = true := srtK_N (found.take v4) id
        simp_arith []
        rw [srt_l z1 z2 (lim_of (by rw [List.length_map, List.length_take]; omega))]
        have es' : ((found.take v4).map N).mergeSort (PySem.W.dataLe false id) = ys.map N := es
        rw [es']
        simp_arith []
        rw [wd_map]) (lim_of (by omega)) (fun y hy q => by
      obtain ⟨v, q', hv, ev⟩ := e_pick S (show 2 ≤ n - 1 by omega) 8 (by omega) (by omega) q
      refine ⟨(y, 1 + v), q', rfl, by show 1 ≤ 1 + v; omega, ?_⟩
      have ev : callN T 100 (n - 1) 38 [.r h.length, .d (.int 8)] (h ++ [srcO q]) = .ok (.d (.int v)) (h ++ [srcO q']) := ev
      simp_arith [lcT, ev]
      rfl)
    clear hx
    have lsl : ls.length = ys.length := by rw [← hls, List.length_map]
    have hl : Lims ls sz.length := by
      refine ⟨fun l hm => ?_, by omega, fun k hk => ?_⟩
      · have hy : l.1 ∈ ys := by rw [← hls]; exact List.mem_map.mpr ⟨l, hm, rfl⟩
        exact ⟨⟨(ylot _ hy).1, (ylot _ hy).2⟩, pls l hm⟩
      · rw [← hls, List.pairwise_map] at pw
        exact pw_at pw k hk
    have nd : (ls.map (·.1)).Nodup := by
      rw [show ls.map (·.1) = ys from hls]
      exact pys.nodup_iff.mpr ndf
    simp_arith []
    rw [tup_l (lim_of (by rw [List.length_map]; omega)), show PyData.tuple (ls.map Lm) = Lms ls from rfl]
    have e6 : mkI T (callN T 100 (n - 2)) 0 [.d (N sz), .d (Lms ls)] (h ++ [srcO q5]) = .ok (.r (h.length + 1)) (h ++ [srcO q5, ledO sz ls [] [] (h.length + 2), .lst []]) := by
      have z := e_new (h := h ++ [srcO q5]) (show 7 ≤ n - 2 by omega) sz hs ls hl
      rw [List.length_append, List.append_assoc] at z
      exact z
    simp_arith [e6, len_3, List.append_assoc, rng_12]
    rw [HH_0]
    generalize hq : forL _ _ _ _ = o
    obtain ⟨e', h', rfl, q6, st, t, y9, y10, y11, y12, y13, y14, rfl, rfl, inv, tl⟩ := for_endP hq (List.range 12) (fun i : Nat => Itm.one (.d (.int i))) (fun pre e h' => ∃ (q : Int × Int) (st : LSt) (t : Hs) (y9 y10 y11 y12 y13 y14 : Option W), e = [some (.d (.list (ns.map PyData.int))), some (.d (.int z)), some (.r h.length), some (.d (N sz)), some (.d (.list ((found.take v4).map N))), some (.d (Lms ls)), some (.r (h.length + 1)), some (.r (h.length + 3)), some (.d namesD), y9, y10, y11, y12, y13, y14, x15, x16, none, none] ∧ h' = HH h sz ls q st st t ∧ Inv sz pre.length st ∧ Tl h t) rfl ⟨q5, ⟨[], [], []⟩, [], x9, x10, x11, x12, x13, x14, rfl, rfl, Inv.zero sz, (fun _ h => by cases h)⟩ (by
      clear hq
      rintro pre k r e h' hp ⟨q, st, t, y9, y10, y11, y12, y13, y14, rfl, rfl, inv, tl⟩ P hP
      obtain ⟨hk, _, hpk⟩ := pre_range hp
      rw [hpk] at inv
      have clH := fun q => HH_cl (sz := sz) (ls := ls) cl q st st tl
      obtain ⟨w, q1, hw, ew⟩ := e_pick (HH_src (sz := sz) (ls := ls) st st t) (show 2 ≤ n - 1 by omega) 6 (by omega) (by omega) q
      have ew : callN T 100 (n - 1) 38 [.r h.length, .d (.int 6)] (HH h sz ls q st st t) = .ok (.d (.int w)) (HH h sz ls q1 st st t) := ew
      obtain ⟨v, q2, hv, ev⟩ := e_pick (HH_src (sz := sz) (ls := ls) st st t) (show 2 ≤ n - 1 by omega) 4 (by omega) (by omega) q1
      have ev : callN T 100 (n - 1) 38 [.r h.length, .d (.int 4)] (HH h sz ls q1 st st t) = .ok (.d (.int v)) (HH h sz ls q2 st st t) := ev
      obtain ⟨x, hx, ex⟩ := names_at hv
      obtain ⟨rows, q3, hj, ej⟩ := e_joint (HH_src (sz := sz) (ls := ls) st st t) clH (show 3 ≤ n - 1 by omega) sz hs q2
      have ej : callN T 100 (n - 1) 44 [.r h.length, .d (N sz)] (HH h sz ls q2 st st t) = .ok (.d (J sz rows)) (HH h sz ls q3 st st t) := ej
      simp_arith [forT, ew, ev, namesD, sub_lst ex, -out_ite, -bd_ite]
      generalize hr : (ite (decide ((w : Int) < 4) = true) _ _ : Res W) = rr
      have key : ∃ (s : Stp) (q4 : Int × Int), s.Ok sz ∧ s.nm ∧ rr = .ok (.d (s.D sz)) (HH h sz ls q4 st st t) := by
        subst hr
        by_cases c1 : w < 4
        · have c1' : decide ((w : Int) < 4) = true := decide_eq_true (by omega)
          refine ⟨.tell x rows, q3, ⟨nm4_ok hx, hj⟩, hx, ?_⟩
          simp_arith [c1', ej]
          rfl
        · have c1' : decide ((w : Int) < 4) = false := decide_eq_false (by omega)
          by_cases c2 : w = 4
          · have c2' : ((w : Int) == 4) = true := by rw [beq_iff_eq]; omega
            refine ⟨.drop x, q2, nm4_ok hx, hx, ?_⟩
            simp_arith [c1', c2']
            rfl
          · have c2' : ((w : Int) == 4) = false := by rw [beq_eq_false_iff_ne]; omega
            refine ⟨.undo, q2, trivial, trivial, ?_⟩
            simp_arith [c1', c2']
            rfl
      obtain ⟨s, q4, so, sn, rfl⟩ := key
      have inv' := inv.done (ls := ls) s so sn
      have f1 := HH_done (n := n - 1) (by omega) cl hs hl (show k ≤ 90 by omega) inv tl q4 s so
      have f2 := HH_due (h := h) (n := n - 1) (st1 := (doneR sz ls st s).2) (t := t) (by omega) hs hl (show k ≤ 90 by omega) inv q4 s so
      have f3 := fun h => e_same 2 (n - 1) _ (sm_done inv hl s so) (by omega) h
      have hend : (pre ++ [k]).length = k + 1 := by rw [List.length_append, hpk]; rfl
      simp_arith [f1, f2, f3, bin_mod4]
      by_cases c : k % 4 = 3
      · have c' : (((k : Nat) : Int) % 4 == 3) = true := by rw [beq_iff_eq]; omega
        obtain ⟨q5', f4⟩ := HH_stands (n := n - 1) (by omega) cl hs hl nd (show k + 1 ≤ 90 by omega) inv' tl q4
        have f5 := HH_twin (n := n - 1) (by omega) cl hs hl (show k + 1 ≤ 90 by omega) inv' tl q5'
        have g0 := HH_sta (h := h) (sz := sz) (ls := ls) q5' (doneR sz ls st s).2 (doneR sz ls st s).2 t
        have g1 := fun u : Hs => get_app (t := u) g0
        have dso : (Stp.drop x).Ok sz := nm4_ok hx
        have f6 : callN T 100 (n - 1) 47 [.r (ad h t), .d (.tuple [.str "drop", .str x])] (TT h sz ls t (doneR sz ls st s).2 q5' (doneR sz ls st s).2 (doneR sz ls st s).2) = .ok (.d (doneR sz ls (doneR sz ls st s).2 (.drop x)).1) (TT h sz ls t (doneR sz ls st s).2 q5' (doneR sz ls (doneR sz ls st s).2 (.drop x)).2 (doneR sz ls st s).2) := TT_done (n := n - 1) (by omega) cl hs hl (show k + 1 ≤ 90 by omega) inv' tl q5' (.drop x) dso
        have f7 : callN T 100 (n - 1) 48 [.d (N sz), .d (Lms ls), .r (ad h t + 3), .d (.tuple [.str "drop", .str x])] (TT h sz ls t (doneR sz ls st s).2 q5' (doneR sz ls (doneR sz ls st s).2 (.drop x)).2 (doneR sz ls st s).2) = .ok (.d (doneR sz ls (doneR sz ls st s).2 (.drop x)).1) (TT h sz ls t (doneR sz ls st s).2 q5' (doneR sz ls (doneR sz ls st s).2 (.drop x)).2 (doneR sz ls (doneR sz ls st s).2 (.drop x)).2) := TT_due (n := n - 1) (by omega) hs hl (show k + 1 ≤ 90 by omega) inv' q5' (.drop x) dso
        have inv'' := inv'.done (ls := ls) (.drop x) dso hx
        have f8 := fun h => e_same 2 (n - 1) _ (sm_done inv' hl (.drop x) dso) (by omega) h
        obtain ⟨q6', f9⟩ := TT_stands (n := n - 1) (st := (doneR sz ls st s).2) (by omega) cl hs hl nd (show k + 1 + 1 ≤ 90 by omega) inv'' tl q5'
        simp_arith [c', f4, mclA_i (HH_led q5' (doneR sz ls st s).2 (doneR sz ls st s).2 t).o lm_12, f5]
        have b1 := inv'.nl
        have b2 := inv'.jl
        have b3 := inv'.pl
        have l1 : ∀ h, bifW .list false [.d (Ln (doneR sz ls st s).2.ns)] h = .ok (.d (Ln (doneR sz ls st s).2.ns)) h := fun h => lst_l (lim_of (by rw [List.length_map]; omega))
        have l2 : ∀ h, bifW .list false [.d (Jl sz (doneR sz ls st s).2.js)] h = .ok (.d (Jl sz (doneR sz ls st s).2.js)) h := fun h => lst_l (lim_of (by rw [List.length_map]; omega))
        have l3 : ∀ h, bifW .list false [.d (Lp sz (doneR sz ls st s).2.past)] h = .ok (.d (Lp sz (doneR sz ls st s).2.past)) h := fun h => lst_l (lim_of (by rw [List.length_map]; omega))
        simp_arith [subr_0 (g1 _), subr_1 (g1 _), subr_2 (g1 _), l1, l2, l3, len_3, HH_len, -List.cons_append]
        rw [TT_make]
        simp_arith [f6, f7, f8, f9]
        rw [TT_HH]
        refine .nx ?_
        rw [hP, hend]
        exact ⟨_, _, _, _, _, _, _, _, _, rfl, rfl, inv', Tl.app (sz := sz) (ls := ls) tl (doneR sz ls (doneR sz ls st s).2 (.drop x)).2 (doneR sz ls (doneR sz ls st s).2 (.drop x)).2⟩
      · have c' : (((k : Nat) : Int) % 4 == 3) = false := by rw [beq_eq_false_iff_ne]; omega
        simp_arith [c']
        refine .nx ?_
        rw [hP, hend]
        exact ⟨_, _, _, _, _, _, _, _, _, rfl, rfl, inv', tl⟩)
    rw [List.length_range] at inv
    obtain ⟨v, q7, hv, ev⟩ := e_pick (HH_src (sz := sz) (ls := ls) st st t) (show 2 ≤ n - 1 by omega) 5 (by omega) (by omega) q6
    have ev : callN T 100 (n - 1) 38 [.r h.length, .d (.int 5)] (HH h sz ls q6 st st t) = .ok (.d (.int v)) (HH h sz ls q7 st st t) := ev
    obtain ⟨y, hy, ey⟩ := odd_at hv
    have LH := HH_led (h := h) (sz := sz) (ls := ls) q7 st st t
    have clH := HH_cl (sz := sz) (ls := ls) cl q7 st st tl
    have f1 := e_done_n (n := n - 1) (by omega) LH y hy
    have f2 := e_done_j (n := n - 1) (by omega) LH (.str "fresh") Nm_fresh
    have hno : ("fresh" : Str) ∉ st.ns := fun z => fresh_not (inv.nm _ z)
    have f3 : callN T 100 (n - 1) 47 [.r (h.length + 1), .d (.tuple [.str "drop", .str "fresh"])] (HH h sz ls q7 st st t) = .ok (.d (.tuple [.str "unknown", .str "fresh"])) (HH h sz ls q7 st st t) := by
      have z := HH_done (n := n - 1) (by omega) cl hs hl (show 12 ≤ 90 by omega) inv tl q7 (.drop "fresh") nm_fresh
      have zz : doneR sz ls st (.drop "fresh") = (.tuple [.str "unknown", .str "fresh"], st) := by
        unfold doneR
        dsimp only
        rw [if_neg hno]
      rw [zz] at z
      exact z
    have f4 := e_same 2 (n - 1) (.list [.tuple [.str "name"], .tuple [.str "joint"], .tuple [.str "unknown", .str "fresh"]]) (by decide +kernel) (by omega) (HH h sz ls q7 st st t)
    have f5 := e_refused (n := n - 1) (by omega) hs LH clH (inv.stok (by omega))
    simp_arith [ev, sub_lst ey, f1, f2, f3, f4, f5]
    refine .nx ?_
    rw [hP]
    exact ⟨_, _, _, _, _, _, _, _, _, _, _, _, _, _, _, _, rfl, clH⟩)
  simp_arith []
end
theorem run_law (ns : List Int) (hl : ns.length ≤ 63) (hb : ∀ z ∈ ns, Builtin.Int.intBits z ≤ 1048576) : ∃ h, callN T 100 40 51 [.d (.list (ns.map PyData.int))] [] = .ok (.d (.bool true)) h :=
  ⟨[], law_ok (by omega) ns hl hb⟩
end Lw
/-! The head: the program's top runs to the table's facts. -/
namespace Lw
open PySem PySem.Spec PyProof.Rows L2 Rf
def x0 : XEnt := ⟨"Taken", "name", "Taken.__init__", ⟨[], [⟨"self", none, ⟨14, 17, 14, 21⟩⟩, ⟨"name", none, ⟨14, 23, 14, 27⟩⟩], none, [], [], none, []⟩, ⟨.function, [("self", .local), ("name", .local)], false, false, []⟩, "self", "name", ⟨15, 8, 15, 12⟩, ⟨15, 8, 15, 17⟩, ⟨15, 20, 15, 24⟩, ⟨15, 8, 15, 24⟩⟩
def x1 : XEnt := ⟨"TooMuch", "lot", "TooMuch.__init__", ⟨[], [⟨"self", none, ⟨27, 17, 27, 21⟩⟩, ⟨"lot", none, ⟨27, 23, 27, 26⟩⟩], none, [], [], none, []⟩, ⟨.function, [("self", .local), ("lot", .local)], false, false, []⟩, "self", "lot", ⟨28, 8, 28, 12⟩, ⟨28, 8, 28, 16⟩, ⟨28, 19, 28, 22⟩, ⟨28, 8, 28, 22⟩⟩
def x2 : XEnt := ⟨"Unknown", "name", "Unknown.__init__", ⟨[], [⟨"self", none, ⟨10, 17, 10, 21⟩⟩, ⟨"name", none, ⟨10, 23, 10, 27⟩⟩], none, [], [], none, []⟩, ⟨.function, [("self", .local), ("name", .local)], false, false, []⟩, "self", "name", ⟨11, 8, 11, 12⟩, ⟨11, 8, 11, 17⟩, ⟨11, 20, 11, 24⟩, ⟨11, 8, 11, 24⟩⟩
def xs : List XEnt := [x0, x1, x2]
def fn : List He.DefD := T.fns.map FEnt.dd ++ xs.map XEnt.dd
theorem pos0 : posOk f0.name f0.qual f0.ar f0.body.blk f0.sc f0.ps := by
  intro kV doc pm an cdv ct us hl
  exact match us, hl with | [_], _ => rfl
theorem pos1 : posOk f1.name f1.qual f1.ar f1.body.blk f1.sc f1.ps := by
  intro kV doc pm an cdv ct us hl
  exact match us, hl with | [_], _ => rfl
theorem pos2 : posOk f2.name f2.qual f2.ar f2.body.blk f2.sc f2.ps := by
  intro kV doc pm an cdv ct us hl
  exact match us, hl with | [_], _ => rfl
theorem pos3 : posOk f3.name f3.qual f3.ar f3.body.blk f3.sc f3.ps := by
  intro kV doc pm an cdv ct us hl
  exact match us, hl with | [_], _ => rfl
theorem pos4 : posOk f4.name f4.qual f4.ar f4.body.blk f4.sc f4.ps := by
  intro kV doc pm an cdv ct us hl
  exact match us, hl with | [_], _ => rfl
theorem pos5 : posOk f5.name f5.qual f5.ar f5.body.blk f5.sc f5.ps := by
  intro kV doc pm an cdv ct us hl
  exact match us, hl with | [_, _, _], _ => rfl
theorem pos6 : posOk f6.name f6.qual f6.ar f6.body.blk f6.sc f6.ps := by
  intro kV doc pm an cdv ct us hl
  exact match us, hl with | [_, _], _ => rfl
theorem pos7 : posOk f7.name f7.qual f7.ar f7.body.blk f7.sc f7.ps := by
  intro kV doc pm an cdv ct us hl
  exact match us, hl with | [_], _ => rfl
theorem pos8 : posOk f8.name f8.qual f8.ar f8.body.blk f8.sc f8.ps := by
  intro kV doc pm an cdv ct us hl
  exact match us, hl with | [_], _ => rfl
theorem pos9 : posOk f9.name f9.qual f9.ar f9.body.blk f9.sc f9.ps := by
  intro kV doc pm an cdv ct us hl
  exact match us, hl with | [_], _ => rfl
theorem pos10 : posOk f10.name f10.qual f10.ar f10.body.blk f10.sc f10.ps := by
  intro kV doc pm an cdv ct us hl
  exact match us, hl with | [_, _], _ => rfl
theorem pos11 : posOk f11.name f11.qual f11.ar f11.body.blk f11.sc f11.ps := by
  intro kV doc pm an cdv ct us hl
  exact match us, hl with | [_, _], _ => rfl
theorem pos12 : posOk f12.name f12.qual f12.ar f12.body.blk f12.sc f12.ps := by
  intro kV doc pm an cdv ct us hl
  exact match us, hl with | [_, _], _ => rfl
theorem pos13 : posOk f13.name f13.qual f13.ar f13.body.blk f13.sc f13.ps := by
  intro kV doc pm an cdv ct us hl
  exact match us, hl with | [_, _], _ => rfl
theorem pos14 : posOk f14.name f14.qual f14.ar f14.body.blk f14.sc f14.ps := by
  intro kV doc pm an cdv ct us hl
  exact match us, hl with | [_, _], _ => rfl
theorem pos15 : posOk f15.name f15.qual f15.ar f15.body.blk f15.sc f15.ps := by
  intro kV doc pm an cdv ct us hl
  exact match us, hl with | [_, _], _ => rfl
theorem pos16 : posOk f16.name f16.qual f16.ar f16.body.blk f16.sc f16.ps := by
  intro kV doc pm an cdv ct us hl
  exact match us, hl with | [_, _], _ => rfl
theorem pos17 : posOk f17.name f17.qual f17.ar f17.body.blk f17.sc f17.ps := by
  intro kV doc pm an cdv ct us hl
  exact match us, hl with | [_, _, _], _ => rfl
theorem pos18 : posOk f18.name f18.qual f18.ar f18.body.blk f18.sc f18.ps := by
  intro kV doc pm an cdv ct us hl
  exact match us, hl with | [_, _], _ => rfl
theorem pos19 : posOk f19.name f19.qual f19.ar f19.body.blk f19.sc f19.ps := by
  intro kV doc pm an cdv ct us hl
  exact match us, hl with | [_], _ => rfl
theorem pos20 : posOk f20.name f20.qual f20.ar f20.body.blk f20.sc f20.ps := by
  intro kV doc pm an cdv ct us hl
  exact match us, hl with | [_, _], _ => rfl
theorem pos21 : posOk f21.name f21.qual f21.ar f21.body.blk f21.sc f21.ps := by
  intro kV doc pm an cdv ct us hl
  exact match us, hl with | [_, _], _ => rfl
theorem pos22 : posOk f22.name f22.qual f22.ar f22.body.blk f22.sc f22.ps := by
  intro kV doc pm an cdv ct us hl
  exact match us, hl with | [_, _, _], _ => rfl
theorem pos23 : posOk f23.name f23.qual f23.ar f23.body.blk f23.sc f23.ps := by
  intro kV doc pm an cdv ct us hl
  exact match us, hl with | [_, _, _], _ => rfl
theorem pos24 : posOk f24.name f24.qual f24.ar f24.body.blk f24.sc f24.ps := by
  intro kV doc pm an cdv ct us hl
  exact match us, hl with | [_], _ => rfl
theorem pos25 : posOk f25.name f25.qual f25.ar f25.body.blk f25.sc f25.ps := by
  intro kV doc pm an cdv ct us hl
  exact match us, hl with | [_, _], _ => rfl
theorem pos26 : posOk f26.name f26.qual f26.ar f26.body.blk f26.sc f26.ps := by
  intro kV doc pm an cdv ct us hl
  exact match us, hl with | [_, _], _ => rfl
theorem pos27 : posOk f27.name f27.qual f27.ar f27.body.blk f27.sc f27.ps := by
  intro kV doc pm an cdv ct us hl
  exact match us, hl with | [_, _, _, _], _ => rfl
theorem pos28 : posOk f28.name f28.qual f28.ar f28.body.blk f28.sc f28.ps := by
  intro kV doc pm an cdv ct us hl
  exact match us, hl with | [_, _, _], _ => rfl
theorem pos29 : posOk f29.name f29.qual f29.ar f29.body.blk f29.sc f29.ps := by
  intro kV doc pm an cdv ct us hl
  exact match us, hl with | [_, _], _ => rfl
theorem pos30 : posOk f30.name f30.qual f30.ar f30.body.blk f30.sc f30.ps := by
  intro kV doc pm an cdv ct us hl
  exact match us, hl with | [_], _ => rfl
theorem pos31 : posOk f31.name f31.qual f31.ar f31.body.blk f31.sc f31.ps := by
  intro kV doc pm an cdv ct us hl
  exact match us, hl with | [_], _ => rfl
theorem pos32 : posOk f32.name f32.qual f32.ar f32.body.blk f32.sc f32.ps := by
  intro kV doc pm an cdv ct us hl
  exact match us, hl with | [_, _], _ => rfl
theorem pos33 : posOk f33.name f33.qual f33.ar f33.body.blk f33.sc f33.ps := by
  intro kV doc pm an cdv ct us hl
  exact match us, hl with | [_, _], _ => rfl
theorem pos34 : posOk f34.name f34.qual f34.ar f34.body.blk f34.sc f34.ps := by
  intro kV doc pm an cdv ct us hl
  exact match us, hl with | [_, _, _], _ => rfl
theorem pos35 : posOk f35.name f35.qual f35.ar f35.body.blk f35.sc f35.ps := by
  intro kV doc pm an cdv ct us hl
  exact match us, hl with | [_, _], _ => rfl
theorem pos36 : posOk f36.name f36.qual f36.ar f36.body.blk f36.sc f36.ps := by
  intro kV doc pm an cdv ct us hl
  exact match us, hl with | [_], _ => rfl
theorem pos37 : posOk f37.name f37.qual f37.ar f37.body.blk f37.sc f37.ps := by
  intro kV doc pm an cdv ct us hl
  exact match us, hl with | [_], _ => rfl
theorem pos38 : posOk f38.name f38.qual f38.ar f38.body.blk f38.sc f38.ps := by
  intro kV doc pm an cdv ct us hl
  exact match us, hl with | [_, _], _ => rfl
theorem pos39 : posOk f39.name f39.qual f39.ar f39.body.blk f39.sc f39.ps := by
  intro kV doc pm an cdv ct us hl
  exact match us, hl with | [_, _], _ => rfl
theorem pos40 : posOk f40.name f40.qual f40.ar f40.body.blk f40.sc f40.ps := by
  intro kV doc pm an cdv ct us hl
  exact match us, hl with | [_, _], _ => rfl
theorem pos41 : posOk f41.name f41.qual f41.ar f41.body.blk f41.sc f41.ps := by
  intro kV doc pm an cdv ct us hl
  exact match us, hl with | [_], _ => rfl
theorem pos42 : posOk f42.name f42.qual f42.ar f42.body.blk f42.sc f42.ps := by
  intro kV doc pm an cdv ct us hl
  exact match us, hl with | [_], _ => rfl
theorem pos43 : posOk f43.name f43.qual f43.ar f43.body.blk f43.sc f43.ps := by
  intro kV doc pm an cdv ct us hl
  exact match us, hl with | [_, _, _], _ => rfl
theorem pos44 : posOk f44.name f44.qual f44.ar f44.body.blk f44.sc f44.ps := by
  intro kV doc pm an cdv ct us hl
  exact match us, hl with | [_, _], _ => rfl
theorem pos45 : posOk f45.name f45.qual f45.ar f45.body.blk f45.sc f45.ps := by
  intro kV doc pm an cdv ct us hl
  exact match us, hl with | [_, _, _], _ => rfl
theorem pos46 : posOk f46.name f46.qual f46.ar f46.body.blk f46.sc f46.ps := by
  intro kV doc pm an cdv ct us hl
  exact match us, hl with | [_, _, _], _ => rfl
theorem pos47 : posOk f47.name f47.qual f47.ar f47.body.blk f47.sc f47.ps := by
  intro kV doc pm an cdv ct us hl
  exact match us, hl with | [_, _], _ => rfl
theorem pos48 : posOk f48.name f48.qual f48.ar f48.body.blk f48.sc f48.ps := by
  intro kV doc pm an cdv ct us hl
  exact match us, hl with | [_, _, _, _], _ => rfl
theorem pos49 : posOk f49.name f49.qual f49.ar f49.body.blk f49.sc f49.ps := by
  intro kV doc pm an cdv ct us hl
  exact match us, hl with | [_, _, _, _, _], _ => rfl
theorem pos50 : posOk f50.name f50.qual f50.ar f50.body.blk f50.sc f50.ps := by
  intro kV doc pm an cdv ct us hl
  exact match us, hl with | [_, _], _ => rfl
theorem pos51 : posOk f51.name f51.qual f51.ar f51.body.blk f51.sc f51.ps := by
  intro kV doc pm an cdv ct us hl
  exact match us, hl with | [_], _ => rfl
theorem xpos0 : posOk "__init__" x0.qual x0.ar [x0.st] x0.sc [x0.s, x0.a] := by
  intro kV doc pm an cdv ct us hl
  exact match us, hl with | [_, _], _ => rfl
theorem xpos1 : posOk "__init__" x1.qual x1.ar [x1.st] x1.sc [x1.s, x1.a] := by
  intro kV doc pm an cdv ct us hl
  exact match us, hl with | [_, _], _ => rfl
theorem xpos2 : posOk "__init__" x2.qual x2.ar [x2.st] x2.sc [x2.s, x2.a] := by
  intro kV doc pm an cdv ct us hl
  exact match us, hl with | [_, _], _ => rfl
theorem kw0 : kwOk T (28, 1, ["name", "joint"], [0, 1]) := by
  intro kV doc pm an cdv ct us ws h1 h2
  exact match us, ws, h1, h2 with | [_], [_, _], _, _ => rfl
theorem kw1 : kwOk T (29, 1, ["name"], [0]) := by
  intro kV doc pm an cdv ct us ws h1 h2
  exact match us, ws, h1, h2 with | [_], [_], _, _ => rfl
theorem kw2 : kwOk T (34, 2, ["inputs"], [0]) := by
  intro kV doc pm an cdv ct us ws h1 h2
  exact match us, ws, h1, h2 with | [_, _], [_], _, _ => rfl
theorem kw3 : kwOk T (32, 1, ["lot"], [0]) := by
  intro kV doc pm an cdv ct us ws h1 h2
  exact match us, ws, h1, h2 with | [_], [_], _, _ => rfl
theorem kw4 : kwOk T (35, 1, ["joint"], [0]) := by
  intro kV doc pm an cdv ct us ws h1 h2
  exact match us, ws, h1, h2 with | [_], [_], _, _ => rfl
theorem kw5 : kwOk T (23, 2, ["limits"], [0]) := by
  intro kV doc pm an cdv ct us ws h1 h2
  exact match us, ws, h1, h2 with | [_, _], [_], _, _ => rfl
theorem okB0 : fns0.all (fun fe => fe.okB T) = true := by decide +kernel
theorem okB1 : fns1.all (fun fe => fe.okB T) = true := by decide +kernel
theorem okB2 : fns2.all (fun fe => fe.okB T) = true := by decide +kernel
theorem okA : T.fns.all (fun fe => fe.okB T) = true := by
  show (fns0 ++ fns1 ++ fns2).all _ = true
  simp only [List.all_append, okB0, okB1, okB2, Bool.and_self]
theorem posA0 : ∀ fe ∈ fns0, posOk fe.name fe.qual fe.ar fe.body.blk fe.sc fe.ps := by
  unfold fns0
  simp only [List.forall_mem_cons, List.not_mem_nil, false_implies, implies_true, and_true]
  exact ⟨pos0, pos1, pos2, pos3, pos4, pos5, pos6, pos7, pos8, pos9, pos10, pos11, pos12, pos13, pos14, pos15, pos16, pos17, pos18, pos19⟩
theorem posA1 : ∀ fe ∈ fns1, posOk fe.name fe.qual fe.ar fe.body.blk fe.sc fe.ps := by
  unfold fns1
  simp only [List.forall_mem_cons, List.not_mem_nil, false_implies, implies_true, and_true]
  exact ⟨pos20, pos21, pos22, pos23, pos24, pos25, pos26, pos27, pos28, pos29, pos30, pos31, pos32, pos33, pos34, pos35, pos36, pos37, pos38, pos39⟩
theorem posA2 : ∀ fe ∈ fns2, posOk fe.name fe.qual fe.ar fe.body.blk fe.sc fe.ps := by
  unfold fns2
  simp only [List.forall_mem_cons, List.not_mem_nil, false_implies, implies_true, and_true]
  exact ⟨pos40, pos41, pos42, pos43, pos44, pos45, pos46, pos47, pos48, pos49, pos50, pos51⟩
theorem posA : ∀ fe ∈ T.fns, posOk fe.name fe.qual fe.ar fe.body.blk fe.sc fe.ps := by
  intro fe hf
  have hf : fe ∈ fns0 ++ fns1 ++ fns2 := hf
  simp only [List.mem_append] at hf
  rcases hf with (hf | hf) | hf
  · exact posA0 fe hf
  · exact posA1 fe hf
  · exact posA2 fe hf
theorem allI_of {p : Nat → FEnt → Prop} : ∀ (l : List FEnt) (n : Nat), (∀ fe ∈ l, ∀ i, p i fe) → AllI p n l
  | [], _, _ => trivial
  | x :: r, n, h => ⟨h x List.mem_cons_self n, allI_of r (n + 1) fun fe hf => h fe (List.mem_cons_of_mem _ hf)⟩
theorem h1 : AllI (fun i fe => fe.okB T = true ∧ fe.dd ∈ fn ∧ posOk fe.name fe.qual fe.ar fe.body.blk fe.sc fe.ps) 0 T.fns :=
  allI_of _ _ fun fe hf _ => ⟨List.all_eq_true.mp okA fe hf, List.mem_append_left _ (List.mem_map.mpr ⟨fe, hf, rfl⟩), posA fe hf⟩
theorem h2 : ∀ q ∈ T.kws, kwOk T q := by
  show ∀ q ∈ ([(28, 1, ["name", "joint"], [0, 1]), (29, 1, ["name"], [0]), (34, 2, ["inputs"], [0]), (32, 1, ["lot"], [0]), (35, 1, ["joint"], [0]), (23, 2, ["limits"], [0])] : List (Nat × Nat × List Str × List Nat)), kwOk T q
  simp only [List.forall_mem_cons, List.not_mem_nil, false_implies, implies_true, and_true]
  exact ⟨kw0, kw1, kw2, kw3, kw4, kw5⟩
theorem h3 : T.exf = xs.map fun x => (x.cls, x.fld) := by rfl
theorem h5 : T.clB = true := by decide +kernel
theorem h4 : ∀ x ∈ xs, x.dd ∈ fn ∧ x.okB = true ∧ posOk "__init__" x.qual x.ar [x.st] x.sc [x.s, x.a] := by
  have hk : ∀ x ∈ xs, x.okB = true ∧ posOk "__init__" x.qual x.ar [x.st] x.sc [x.s, x.a] := by
    unfold xs
    simp only [List.forall_mem_cons, List.not_mem_nil, false_implies, implies_true, and_true]
    exact ⟨⟨by decide +kernel, xpos0⟩, ⟨by decide +kernel, xpos1⟩, ⟨by decide +kernel, xpos2⟩⟩
  exact fun x hx => ⟨List.mem_append_right _ (List.mem_map.mpr ⟨x, hx, rfl⟩), hk x hx⟩
def loose0 : List PySem.Str := [("__name__" : PySem.Str), ("TellError" : PySem.Str), ("InvalidName" : PySem.Str), ("NothingToUndo" : PySem.Str), ("Unknown" : PySem.Str), ("Taken" : PySem.Str), ("InvalidJoint" : PySem.Str), ("InvalidLot" : PySem.Str), ("InvalidInputs" : PySem.Str), ("InvalidLimits" : PySem.Str)]
def loose1 : List PySem.Str := [("TooMuch" : PySem.Str), ("is_integer" : PySem.Str), ("is_integer_access" : PySem.Str), ("LETTERS" : PySem.Str), ("is_name" : PySem.Str), ("check_name" : PySem.Str), ("LEAST_HANDS" : PySem.Str), ("MOST_HANDS" : PySem.Str), ("MOST_SIZE" : PySem.Str), ("MOST_OUT" : PySem.Str)]
def loose2 : List PySem.Str := [("is_integer_joint_tables" : PySem.Str), ("is_within" : PySem.Str), ("are_sizes" : PySem.Str), ("inputs_of" : PySem.Str), ("is_out" : PySem.Str), ("is_joint" : PySem.Str), ("is_lot_of_hands" : PySem.Str), ("check_lot" : PySem.Str), ("are_inputs" : PySem.Str), ("check_inputs" : PySem.Str)]
def loose3 : List PySem.Str := [("place_of" : PySem.Str), ("outs_at" : PySem.Str), ("part_of" : PySem.Str), ("answer_of" : PySem.Str), ("answers_of" : PySem.Str), ("groups_of" : PySem.Str), ("is_limit" : PySem.Str), ("are_limits" : PySem.Str), ("classes_by" : PySem.Str), ("LeakLedger" : PySem.Str)]
def loose4 : List PySem.Str := [("_law_source" : PySem.Str), ("_law_pick" : PySem.Str), ("_law_same" : PySem.Str), ("_law_shuffled" : PySem.Str), ("_law_lots" : PySem.Str), ("_law_inputs" : PySem.Str), ("_law_ideal_answer" : PySem.Str), ("_law_joint" : PySem.Str), ("_law_classes" : PySem.Str), ("_law_over" : PySem.Str)]
def loose5 : List PySem.Str := [("_law_done" : PySem.Str), ("_law_due" : PySem.Str), ("_law_stands" : PySem.Str), ("_law_refused" : PySem.Str)]
def loose : List PySem.Str := loose0 ++ loose1 ++ loose2 ++ loose3 ++ loose4 ++ loose5
abbrev R : PySem.W.OpenRow := PySem.W.OpenLaw.row PySem.Challenge.rw_viewsalone_k75_leak_ledgers
abbrev hk : PySem.W.Hook := He.hookX 4 T.fa fn [] [] T.ex
def ob (s : PySem.W.SharedT) : He.AlX := He.obsX 4 T.fa fn [] [] T.ex (HandSHeadRun.getT s)
theorem ob_eq (s : PySem.W.SharedT) : ob s = hk.obs s.abs := He.obsX_eq (HandSHeadRun.getT_eq s)
theorem run (w : World) : HandSHeadRun.RunEq R (PySem.W.view R.prog [61]) hk ob 6000 loose w := by
  intro os
  kernel_rfl
end Lw
open PySem PySem.W PySem.Calls PyProof.Rows
theorem PySem.Challenge.cw_viewsalone_k75_leak_ledgers_holds : PySem.Challenge.rw_viewsalone_k75_leak_ledgers.Holds := by
  w_on; o_law
  refine HandSHeadRun.head_any (r := OpenLaw.row PySem.Challenge.rw_viewsalone_k75_leak_ledgers) (q := view (OpenLaw.row PySem.Challenge.rw_viewsalone_k75_leak_ledgers).prog [61]) (H := Lw.hk) (ob := Lw.ob) (M := 6000) (loose := Lw.loose) (d := HandSHeadRun.topDef (OpenLaw.row PySem.Challenge.rw_viewsalone_k75_leak_ledgers).prog 61) (kwd := []) Lw.ob_eq
    (by kernel_rfl) (fun s => by kernel_rfl) Lw.run (by kernel_rfl) (by kernel_rfl) (by kernel_rfl) (by rfl) (by first | assumption | decide +kernel) (by decide +kernel) ⟨rfl, rfl, rfl, rfl, rfl, by decide +kernel⟩ ?hw ?hc
  case hw => w_witness2
  case hc =>
    exact Rf.walk_rf (l := PySem.Challenge.rw_viewsalone_k75_leak_ledgers) (n := 63) (N := 40) (wf := 100) (i := 51) (T := Lw.T) (xs := Lw.xs) (fn := Lw.fn) (fe := Lw.f51) (x := "script") rfl (by decide) (by kernel_rfl) ⟨rfl, by decide, by decide⟩ (fun w h Y => Y)
      Lw.h1 Lw.h2 Lw.h3 Lw.h5 Lw.h4 rfl rfl (by kernel_rfl) rfl Lw.run_law
